import PyProof.Rows.All
import Wide.All
import OpenK.AllK
import Wide.FinOn
import HandS.ForMost
import HandS.TupAny
import HandS.CallLocal
import HandS.Wide
import HandS.ForExc
import HandS.IsInst
import HandS.Style
import HandS.SortInts
import HandS.Codes
import HandS.Conv
import PySem.Challenge.RW_carriedstakes_k91_parting_rows
set_option Elab.async false
set_option linter.all false
set_option maxRecDepth 100000
set_option maxHeartbeats 4000000
namespace VS
open PySem L2

/-! ### data: what a Python value is worth, tuples, lists and dicts within -/
inductive D where
  | non | bl (b : Bool) | int (i : Int) | str (x : Str)
  | tup (l : List D) | lst (l : List D)
  | dK (ks : List Key) (l : List D) | dT (ks : List (List Key)) (l : List D)
  | rol (l : List Int)
  | fn (n : Nat)
mutual
def D.pure : D → Bool
  | .lst _ => false
  | .dK _ _ => false
  | .dT _ _ => false
  | .tup l => pures l
  | .non => true
  | .bl _ => true
  | .int _ => true
  | .str _ => true
  | .rol _ => true
  | .fn _ => true
def pures : List D → Bool
  | [] => true
  | d :: r => d.pure && pures r
end
structure Cn where
  K : PySem.W.Frag
  fa : Nat → Addr

def Imm : HO → Prop
  | .tup _ => True
  | .frz _ _ => True
  | _ => False
def ImmK (H H' : Hp) : Prop := ∀ a o, H a = some o → Imm o → H' a = some o
def RoL (K : PySem.W.Frag) (H : Hp) (a : Addr) (xs : List V) : Prop :=
  (∃ o, H a = some (.frz o (.lst xs))) ∨
    ∃ (o : Obj) (its : Array Value) (n : Nat), K.lookup a = some o ∧ o.cls = .type "list" ∧ o.dict = none ∧ o.data = .seq its n ∧ its.size ≤ sizeLine ∧ Vals xs its.toList
theorem RoL.sq {K : PySem.W.Frag} {H : Hp} {a : Addr} {xs : List V} (h : RoL K H a xs) : SqL K H a xs := by
  rcases h with ⟨o, h⟩ | h
  · exact .inl (.inr ⟨o, h⟩)
  · exact .inr h
mutual
def Own (c : Cn) (H : Hp) : D → V → List Addr → Prop
  | .non, v, f => v = .non ∧ f = []
  | .bl b, v, f => v = .bl b ∧ f = []
  | .int i, v, f => v = .int i ∧ f = []
  | .str x, v, f => v = .str x ∧ f = []
  | .fn n, v, f => v = .ref (c.fa n) ∧ f = []
  | .rol l, v, f => (∃ a, v = .ref a ∧ RoL c.K H a (l.map V.int)) ∧ f = []
  | .tup l, v, f => ∃ a xs, v = .ref a ∧ H a = some (.tup xs) ∧ Owns c H l xs f
  | .lst l, v, f => ∃ a xs g, v = .ref a ∧ H a = some (.lst xs) ∧ Owns c H l xs g ∧ a ∉ g ∧ f = a :: g
  | .dK ks l, v, f => ∃ a xs g, v = .ref a ∧ H a = some (.dK (ks.zip xs)) ∧ ks.length = xs.length ∧ Owns c H l xs g ∧ a ∉ g ∧ f = a :: g
  | .dT ks l, v, f => ∃ a xs g, v = .ref a ∧ H a = some (.dT (ks.zip xs)) ∧ ks.length = xs.length ∧ Owns c H l xs g ∧ a ∉ g ∧ f = a :: g
def Owns (c : Cn) (H : Hp) : List D → List V → List Addr → Prop
  | [], xs, f => xs = [] ∧ f = []
  | d :: r, xs, f => ∃ x ys g h, xs = x :: ys ∧ Own c H d x g ∧ Owns c H r ys h ∧ (∀ a ∈ g, a ∉ h) ∧ f = g ++ h
end
section
variable {c : Cn} {H H' H'' : Hp}
theorem ImmK.sqT {K : PySem.W.Frag} {a : Addr} {xs : List V} (k : ImmK H H') (h : SqT K H a xs) : SqT K H' a xs := by
  rcases h with (h | ⟨o, h⟩) | h
  · exact .inl (.inl (k _ _ h trivial))
  · exact .inl (.inr ⟨o, k _ _ h trivial⟩)
  · exact .inr h
theorem ImmK.roL {K : PySem.W.Frag} {a : Addr} {xs : List V} (k : ImmK H H') (h : RoL K H a xs) : RoL K H' a xs := by
  rcases h with ⟨o, h⟩ | h
  · exact .inl ⟨o, k _ _ h trivial⟩
  · exact .inr h
mutual
theorem own_keep (k : ImmK H H') : ∀ (d : D) (v : V) (f : List Addr), Own c H d v f → (∀ a ∈ f, H' a = H a) → Own c H' d v f
  | .non, v, f, h, _ => by simpa only [Own] using h
  | .bl b, v, f, h, _ => by simpa only [Own] using h
  | .int i, v, f, h, _ => by simpa only [Own] using h
  | .str x, v, f, h, _ => by simpa only [Own] using h
  | .fn n, v, f, h, _ => by simpa only [Own] using h
  | .rol l, v, f, h, _ => by
    simp only [Own] at h ⊢
    obtain ⟨⟨a, e, h⟩, e2⟩ := h
    exact ⟨⟨a, e, k.roL h⟩, e2⟩
  | .tup l, v, f, h, e => by
    simp only [Own] at h ⊢
    obtain ⟨a, xs, e1, h1, h2⟩ := h
    exact ⟨a, xs, e1, k _ _ h1 trivial, owns_keep k l xs f h2 e⟩
  | .lst l, v, f, h, e => by
    simp only [Own] at h ⊢
    obtain ⟨a, xs, g, e1, h1, h2, h3, rfl⟩ := h
    exact ⟨a, xs, g, e1, (e a List.mem_cons_self).trans h1, owns_keep k l xs g h2 (fun b hb => e b (List.mem_cons_of_mem _ hb)), h3, rfl⟩
  | .dK ks l, v, f, h, e => by
    simp only [Own] at h ⊢
    obtain ⟨a, xs, g, e1, h1, hl, h2, h3, rfl⟩ := h
    exact ⟨a, xs, g, e1, (e a List.mem_cons_self).trans h1, hl, owns_keep k l xs g h2 (fun b hb => e b (List.mem_cons_of_mem _ hb)), h3, rfl⟩
  | .dT ks l, v, f, h, e => by
    simp only [Own] at h ⊢
    obtain ⟨a, xs, g, e1, h1, hl, h2, h3, rfl⟩ := h
    exact ⟨a, xs, g, e1, (e a List.mem_cons_self).trans h1, hl, owns_keep k l xs g h2 (fun b hb => e b (List.mem_cons_of_mem _ hb)), h3, rfl⟩
theorem owns_keep (k : ImmK H H') : ∀ (l : List D) (xs : List V) (f : List Addr), Owns c H l xs f → (∀ a ∈ f, H' a = H a) → Owns c H' l xs f
  | [], xs, f, h, _ => by simpa only [Owns] using h
  | d :: r, xs, f, h, e => by
    simp only [Owns] at h ⊢
    obtain ⟨x, ys, g, h', e1, h1, h2, h3, rfl⟩ := h
    exact ⟨x, ys, g, h', e1, own_keep k d x g h1 (fun b hb => e b (List.mem_append_left _ hb)), owns_keep k r ys h' h2 (fun b hb => e b (List.mem_append_right _ hb)), h3, rfl⟩
end
mutual
theorem own_at : ∀ (d : D) (v : V) (f : List Addr), Own c H d v f → ∀ a ∈ f, ∃ o, H a = some o ∧ ¬ Imm o
  | .non, v, f, h, a, ha => by simp only [Own] at h; rw [h.2] at ha; cases ha
  | .bl b, v, f, h, a, ha => by simp only [Own] at h; rw [h.2] at ha; cases ha
  | .int i, v, f, h, a, ha => by simp only [Own] at h; rw [h.2] at ha; cases ha
  | .str x, v, f, h, a, ha => by simp only [Own] at h; rw [h.2] at ha; cases ha
  | .fn n, v, f, h, a, ha => by simp only [Own] at h; rw [h.2] at ha; cases ha
  | .rol l, v, f, h, a, ha => by simp only [Own] at h; rw [h.2] at ha; cases ha
  | .tup l, v, f, h, a, ha => by
    simp only [Own] at h
    obtain ⟨_, xs, _, _, h2⟩ := h
    exact owns_at l xs f h2 a ha
  | .lst l, v, f, h, a, ha => by
    simp only [Own] at h
    obtain ⟨b, xs, g, _, h1, h2, _, rfl⟩ := h
    rcases List.mem_cons.mp ha with rfl | ha
    · exact ⟨_, h1, fun z => z⟩
    · exact owns_at l xs g h2 a ha
  | .dK ks l, v, f, h, a, ha => by
    simp only [Own] at h
    obtain ⟨b, xs, g, _, h1, _, h2, _, rfl⟩ := h
    rcases List.mem_cons.mp ha with rfl | ha
    · exact ⟨_, h1, fun z => z⟩
    · exact owns_at l xs g h2 a ha
  | .dT ks l, v, f, h, a, ha => by
    simp only [Own] at h
    obtain ⟨b, xs, g, _, h1, _, h2, _, rfl⟩ := h
    rcases List.mem_cons.mp ha with rfl | ha
    · exact ⟨_, h1, fun z => z⟩
    · exact owns_at l xs g h2 a ha
theorem owns_at : ∀ (l : List D) (xs : List V) (f : List Addr), Owns c H l xs f → ∀ a ∈ f, ∃ o, H a = some o ∧ ¬ Imm o
  | [], xs, f, h, a, ha => by simp only [Owns] at h; rw [h.2] at ha; cases ha
  | d :: r, xs, f, h, a, ha => by
    simp only [Owns] at h
    obtain ⟨x, ys, g, h', _, h1, h2, _, rfl⟩ := h
    rcases List.mem_append.mp ha with ha | ha
    · exact own_at d x g h1 a ha
    · exact owns_at r ys h' h2 a ha
end
mutual
theorem own_pure : ∀ (d : D) (v : V) (f : List Addr), d.pure = true → Own c H d v f → f = []
  | .non, v, f, _, h => by simp only [Own] at h; exact h.2
  | .bl b, v, f, _, h => by simp only [Own] at h; exact h.2
  | .int i, v, f, _, h => by simp only [Own] at h; exact h.2
  | .str x, v, f, _, h => by simp only [Own] at h; exact h.2
  | .fn n, v, f, _, h => by simp only [Own] at h; exact h.2
  | .rol l, v, f, _, h => by simp only [Own] at h; exact h.2
  | .tup l, v, f, p, h => by
    simp only [Own] at h
    obtain ⟨_, xs, _, _, h2⟩ := h
    exact owns_pure l xs f (by simpa only [D.pure] using p) h2
  | .lst l, v, f, p, _ => by simp [D.pure] at p
  | .dK ks l, v, f, p, _ => by simp [D.pure] at p
  | .dT ks l, v, f, p, _ => by simp [D.pure] at p
theorem owns_pure : ∀ (l : List D) (xs : List V) (f : List Addr), pures l = true → Owns c H l xs f → f = []
  | [], xs, f, _, h => by simp only [Owns] at h; exact h.2
  | d :: r, xs, f, p, h => by
    simp only [Owns] at h
    obtain ⟨x, ys, g, h', _, h1, h2, _, rfl⟩ := h
    simp only [pures, Bool.and_eq_true] at p
    rw [own_pure d x g p.1 h1, owns_pure r ys h' p.2 h2]
    rfl
end
theorem owns_len : ∀ (l : List D) (xs : List V) (f : List Addr), Owns c H l xs f → l.length = xs.length
  | [], xs, f, h => by simp only [Owns] at h; rw [h.1]; rfl
  | d :: r, xs, f, h => by
    simp only [Owns] at h
    obtain ⟨x, ys, g, h', rfl, h1, h2, _, rfl⟩ := h
    rw [List.length_cons, List.length_cons, owns_len r ys h' h2]
/-- one of several -/
theorem owns_get : ∀ (l : List D) (xs : List V) (f : List Addr) (i : Nat) (d : D), Owns c H l xs f → l[i]? = some d → ∃ x g, xs[i]? = some x ∧ Own c H d x g ∧ ∀ a ∈ g, a ∈ f
  | [], xs, f, i, d, _, e => by simp at e
  | d0 :: r, xs, f, i, d, h, e => by
    simp only [Owns] at h
    obtain ⟨x, ys, g, h', rfl, h1, h2, _, rfl⟩ := h
    cases i with
    | zero =>
      simp at e
      subst e
      exact ⟨x, g, rfl, h1, fun a ha => List.mem_append_left _ ha⟩
    | succ i =>
      obtain ⟨x', g', e1, e2, e3⟩ := owns_get r ys h' i d h2 (by simpa using e)
      exact ⟨x', g', by simpa using e1, e2, fun a ha => List.mem_append_right _ (e3 a ha)⟩
theorem owns_snoc : ∀ (l : List D) (xs : List V) (f : List Addr) (d : D) (x : V) (g : List Addr), Owns c H l xs f → Own c H d x g → (∀ a ∈ g, a ∉ f) → Owns c H (l ++ [d]) (xs ++ [x]) (f ++ g)
  | [], xs, f, d, x, g, h, o, n => by
    simp only [Owns] at h
    obtain ⟨rfl, rfl⟩ := h
    simp only [List.nil_append, Owns]
    exact ⟨x, [], g, [], rfl, o, ⟨rfl, rfl⟩, (fun _ _ => by simp), by simp⟩
  | d0 :: r, xs, f, d, x, g, h, o, n => by
    simp only [Owns] at h
    obtain ⟨x0, ys, g0, h', rfl, h1, h2, h3, rfl⟩ := h
    show Owns c H (d0 :: (r ++ [d])) (x0 :: (ys ++ [x])) _
    simp only [Owns]
    refine ⟨x0, ys ++ [x], g0, h' ++ g, rfl, h1, owns_snoc r ys h' d x g h2 o (fun a ha z => n a ha (List.mem_append_right _ z)), fun a ha z => ?_, by rw [List.append_assoc]⟩
    rcases List.mem_append.mp z with z | z
    · exact h3 a ha z
    · exact n a z (List.mem_append_left _ ha)
theorem owns_app : ∀ (l : List D) (xs : List V) (f : List Addr) (m : List D) (ys : List V) (g : List Addr), Owns c H l xs f → Owns c H m ys g → (∀ a ∈ g, a ∉ f) → Owns c H (l ++ m) (xs ++ ys) (f ++ g)
  | [], xs, f, m, ys, g, h, o, n => by
    simp only [Owns] at h
    obtain ⟨rfl, rfl⟩ := h
    exact o
  | d0 :: r, xs, f, m, ys', g, h, o, n => by
    simp only [Owns] at h
    obtain ⟨x0, ys, g0, h', rfl, h1, h2, h3, rfl⟩ := h
    show Owns c H (d0 :: (r ++ m)) (x0 :: (ys ++ ys')) _
    simp only [Owns]
    refine ⟨x0, ys ++ ys', g0, h' ++ g, rfl, h1, owns_app r ys h' m ys' g h2 o (fun a ha z => n a ha (List.mem_append_right _ z)), fun a ha z => ?_, by rw [List.append_assoc]⟩
    rcases List.mem_append.mp z with z | z
    · exact h3 a ha z
    · exact n a z (List.mem_append_left _ ha)
/-- a list of pure ones may be cut and joined at will: each by itself -/
theorem owns_of_all : ∀ (l : List D) (xs : List V), l.length = xs.length → (∀ (i : Nat) (d : D) (x : V), l[i]? = some d → xs[i]? = some x → Own c H d x []) → Owns c H l xs []
  | [], [], _, _ => by simp [Owns]
  | [], _ :: _, h, _ => by simp at h
  | _ :: _, [], h, _ => by simp at h
  | d :: r, x :: ys, hl, h => by
    simp only [Owns]
    exact ⟨x, ys, [], [], rfl, h 0 d x rfl rfl, owns_of_all r ys (by simpa using hl) (fun i d x e1 e2 => h (i + 1) d x (by simpa using e1) (by simpa using e2)), (fun _ z => by cases z), rfl⟩
theorem pures_get : ∀ {l : List D} {i : Nat} {d : D}, pures l = true → l[i]? = some d → d.pure = true
  | [], i, d, _, e => by simp at e
  | d0 :: r, 0, d, h, e => by
    simp at e
    subst e
    simp only [pures, Bool.and_eq_true] at h
    exact h.1
  | d0 :: r, i + 1, d, h, e => by
    simp only [pures, Bool.and_eq_true] at h
    exact pures_get h.2 (by simpa using e)
theorem owns_all {l : List D} {xs : List V} {f : List Addr} (h : Owns c H l xs f) (p : pures l = true) : ∀ (i : Nat) (d : D) (x : V), l[i]? = some d → xs[i]? = some x → Own c H d x [] := fun i d x e1 e2 => by
  obtain ⟨x', g, e3, e4, e5⟩ := owns_get l xs f i d h e1
  rw [e2] at e3
  cases e3
  rw [own_pure d x g (pures_get p e1) e4] at e4
  exact e4
end

/-! ### environments -/
abbrev Env := List (Option D)
def gv (E : Env) (i : Nat) : Option D := match E[i]? with
  | some (some d) => some d
  | _ => none
theorem gv_some {E : Env} {i : Nat} {d : D} : gv E i = some d ↔ E[i]? = some (some d) := by
  unfold gv
  split
  · rename_i d' h
    simp [h]
  · rename_i h
    constructor
    · intro z; cases z
    · intro z
      exact absurd z (h d)
@[simp] theorem gv_zero {d : Option D} {E : Env} : gv (d :: E) 0 = d := by
  cases d <;> rfl
@[simp] theorem gv_succ {d : Option D} {E : Env} {i : Nat} : gv (d :: E) (i + 1) = gv E i := by
  unfold gv
  simp
structure Sims (c : Cn) (H : Hp) (E : Env) (σ : St) (F : Nat → List Addr) : Prop where
  len : E.length = σ.length
  get : ∀ i d, gv E i = some d → ∃ v, σ[i]? = some (some v) ∧ Own c H d v (F i)
  dj : ∀ i j d e, i ≠ j → gv E i = some d → gv E j = some e → ∀ a ∈ F i, a ∉ F j
def Foot (E : Env) (F : Nat → List Addr) (a : Addr) : Prop := ∃ i d, gv E i = some d ∧ a ∈ F i
def Fr (P : Addr → Prop) (H H' : Hp) : Prop := ∀ a o, H a = some o → (¬ P a ∨ Imm o) → H' a = some o
structure Stp (c : Cn) (H : Hp) (E : Env) (F : Nat → List Addr) (E' : Env) (σ' : St) (H' : Hp) (F' : Nat → List Addr) : Prop where
  sim : Sims c H' E' σ' F'
  fr : Fr (Foot E F) H H'
  ft : ∀ a, Foot E' F' a → Foot E F a ∨ H a = none
structure Got (c : Cn) (H : Hp) (E : Env) (F : Nat → List Addr) (E' : Env) (F' : Nat → List Addr) (H' : Hp) (d : D) (v : V) (f : List Addr) : Prop where
  own : Own c H' d v f
  dj : ∀ a ∈ f, ¬ Foot E' F' a
  new : ∀ a ∈ f, Foot E F a ∨ H a = none
def Ext (H H' : Hp) : Prop := ∀ a o, H a = some o → H' a = some o
theorem Ext.refl (H : Hp) : Ext H H := fun _ _ h => h
theorem Ext.trans {H H1 H2 : Hp} (a : Ext H H1) (b : Ext H1 H2) : Ext H H2 := fun x o h => b x o (a x o h)
theorem Ext.new {H : Hp} {p : Addr} {o : HO} (h : H p = none) : Ext H (upd H p o) := fun a u e => by
  rw [upd_ne (ne_of_none e h)]
  exact e
theorem Ext.imm {H H' : Hp} (e : Ext H H') : ImmK H H' := fun a o h _ => e a o h
theorem Ext.back {H H' : Hp} (e : Ext H H') {a : Addr} (h : H' a = none) : H a = none := by
  cases q : H a with
  | none => rfl
  | some o => rw [e a o q] at h; cases h
section
variable {c : Cn} {H H' H1 H2 : Hp} {E E' E1 E2 : Env} {σ σ' σ1 σ2 : St} {F F' F1 F2 : Nat → List Addr} {d : D} {v : V} {f : List Addr}
theorem Ext.own (e : Ext H H') (h : Own c H d v f) : Own c H' d v f := own_keep e.imm d v f h fun a ha => by
  obtain ⟨o, ho, _⟩ := own_at d v f h a ha
  rw [ho]
  exact e a o ho
theorem Ext.owns {l : List D} {xs : List V} (e : Ext H H') (h : Owns c H l xs f) : Owns c H' l xs f := owns_keep e.imm l xs f h fun a ha => by
  obtain ⟨o, ho, _⟩ := owns_at l xs f h a ha
  rw [ho]
  exact e a o ho
theorem Ext.sims (e : Ext H H') (h : Sims c H E σ F) : Sims c H' E σ F :=
  ⟨h.len, fun i d g => let ⟨v, h1, h2⟩ := h.get i d g; ⟨v, h1, e.own h2⟩, h.dj⟩
theorem Fr.of_ext {P : Addr → Prop} (e : Ext H H') : Fr P H H' := fun a o h _ => e a o h
theorem Fr.imm {P : Addr → Prop} (e : Fr P H H') : ImmK H H' := fun a o h i => e a o h (.inr i)
theorem Fr.own {P : Addr → Prop} (e : Fr P H H') (h : Own c H d v f) (n : ∀ a ∈ f, ¬ P a) : Own c H' d v f := own_keep e.imm d v f h fun a ha => by
  obtain ⟨o, ho, _⟩ := own_at d v f h a ha
  rw [ho]
  exact e a o ho (.inl (n a ha))
theorem Fr.owns {P : Addr → Prop} {l : List D} {xs : List V} (e : Fr P H H') (h : Owns c H l xs f) (n : ∀ a ∈ f, ¬ P a) : Owns c H' l xs f := owns_keep e.imm l xs f h fun a ha => by
  obtain ⟨o, ho, _⟩ := owns_at l xs f h a ha
  rw [ho]
  exact e a o ho (.inl (n a ha))
theorem Fr.trans {P P1 : Addr → Prop} (a : Fr P H H1) (b : Fr P1 H1 H2) (h : ∀ x, P1 x → P x ∨ H x = none) : Fr P H H2 := fun x o e k => by
  refine b x o (a x o e k) ?_
  rcases k with k | k
  · refine .inl fun z => ?_
    rcases h x z with q | q
    · exact k q
    · rw [e] at q; cases q
  · exact .inr k
theorem Fr.mono {P P1 : Addr → Prop} (a : Fr P H H1) (h : ∀ x, P x → P1 x ∨ H x = none) : Fr P1 H H1 := fun x o e k => a x o e (by
  rcases k with k | k
  · refine .inl fun z => ?_
    rcases h x z with q | q
    · exact k q
    · rw [e] at q; cases q
  · exact .inr k)
theorem Fr.refl {P : Addr → Prop} : Fr P H H := fun _ _ h _ => h
theorem Fr.there {P : Addr → Prop} (a : Fr P H H1) (hP : ∀ x, P x → ∃ o, H1 x = some o) {x : Addr} (h : H1 x = none) : H x = none := by
  cases q : H x with
  | none => rfl
  | some o =>
    by_cases z : P x
    · obtain ⟨o', e⟩ := hP x z
      rw [e] at h; cases h
    · rw [a x o q (.inl z)] at h; cases h
theorem Stp.refl (h : Sims c H E σ F) : Stp c H E F E σ H F := ⟨h, Fr.refl, fun _ z => .inl z⟩
theorem Stp.ext (h : Sims c H E σ F) (e : Ext H H') : Stp c H E F E σ H' F := ⟨e.sims h, Fr.of_ext e, fun _ z => .inl z⟩
theorem Fr.back {P : Addr → Prop} (a : Fr P H H1) {x : Addr} (h : H1 x = none) : P x ∨ H x = none := by
  by_cases z : P x
  · exact .inl z
  · refine .inr ?_
    cases q : H x with
    | none => rfl
    | some o => rw [a x o q (.inl z)] at h; cases h
theorem Stp.trans (a : Stp c H E F E1 σ1 H1 F1) (b : Stp c H1 E1 F1 E2 σ2 H2 F2) : Stp c H E F E2 σ2 H2 F2 :=
  ⟨b.sim, a.fr.trans b.fr a.ft, fun x z => by
    rcases b.ft x z with q | q
    · exact a.ft x q
    · exact a.fr.back q⟩
/-- what comes of a second step, seen from the first one's start -/
theorem Got.first (a : Stp c H E F E1 σ1 H1 F1) (g : Got c H1 E1 F1 E2 F2 H2 d v f) : Got c H E F E2 F2 H2 d v f :=
  ⟨g.own, g.dj, fun x z => by
    rcases g.new x z with q | q
    · exact a.ft x q
    · exact a.fr.back q⟩
/-- what is not of the environment's is kept -/
theorem Got.later (g : Got c H E F E1 F1 H1 d v f) (b : Stp c H1 E1 F1 E2 σ2 H2 F2) : Got c H E F E2 F2 H2 d v f := by
  refine ⟨b.fr.own g.own g.dj, fun a ha z => ?_, g.new⟩
  rcases b.ft a z with q | q
  · exact g.dj a ha q
  · obtain ⟨o, ho, _⟩ := own_at d v f g.own a ha
    rw [ho] at q; cases q
theorem foot_at (h : Sims c H E σ F) {a : Addr} (z : Foot E F a) : ∃ o, H a = some o ∧ ¬ Imm o := by
  obtain ⟨i, d, g, ha⟩ := z
  obtain ⟨v, _, o⟩ := h.get i d g
  exact own_at d v _ o a ha
end
end VS

set_option maxRecDepth 100000
set_option maxHeartbeats 4000000
namespace VS
open PySem L2

/-! ### results -/
structure ExcV where
  cls : Nat
  fs : List (Str × D)
inductive Res (α : Type) where
  | ok (a : α) | exc (x : ExcV) (E : Env) | no
namespace Res
def bind {α β : Type} (r : Res α) (k : α → Res β) : Res β := match r with
  | .ok a => k a
  | .exc x E => .exc x E
  | .no => .no
@[simp] theorem bind_ok {α β : Type} {a : α} {k : α → Res β} : (Res.ok a).bind k = k a := rfl
@[simp] theorem bind_exc {α β : Type} {x : ExcV} {E : Env} {k : α → Res β} : (Res.exc x E).bind k = .exc x E := rfl
@[simp] theorem bind_no {α β : Type} {k : α → Res β} : (Res.no : Res α).bind k = .no := rfl
def of {α : Type} (o : Option α) : Res α := match o with
  | some a => .ok a
  | none => .no
@[simp] theorem of_some {α : Type} {a : α} : Res.of (some a) = .ok a := rfl
@[simp] theorem of_none {α : Type} : Res.of (none : Option α) = .no := rfl
end Res
def RP {α : Type} (r : Res α) (P : α → Prop) (PX : ExcV → Env → Prop) : Prop := match r with
  | .ok a => P a
  | .exc x E => PX x E
  | .no => False
theorem RP.bind {α β : Type} {r : Res α} {k : α → Res β} {P : β → Prop} {PX : ExcV → Env → Prop} (h : RP (r.bind k) P PX) : RP r (fun a => RP (k a) P PX) PX := by
  cases r <;> exact h
theorem RP.mono {α : Type} {r : Res α} {P P' : α → Prop} {PX PX' : ExcV → Env → Prop} (h : RP r P PX) (f : ∀ a, P a → P' a) (g : ∀ x E, PX x E → PX' x E) : RP r P' PX' := by
  cases r with
  | ok a => exact f a h
  | exc x E => exact g x E h
  | no => exact h
theorem RP.of {α : Type} {o : Option α} {P : α → Prop} {PX : ExcV → Env → Prop} (h : RP (Res.of o) P PX) : ∃ a, o = some a ∧ P a := by
  cases o with
  | none => exact h.elim
  | some a => exact ⟨a, rfl, h⟩

/-! ### what an exception lies as -/
def XRel (c : Cn) (H : Hp) (x : ExcV) (cls : Value) (dd : Option Addr) : Prop :=
  cls = .ref (c.fa x.cls) ∧ ((x.fs = [] ∧ dd = none) ∨ ∃ a ys, dd = some a ∧ H a = some (.xd ((x.fs.map (·.1)).zip ys)) ∧ Owns c H (x.fs.map (·.2)) ys [])
def PXof (c : Cn) (W : WX) (H : Hp) (E : Env) (F : Nat → List Addr) (σ : St) : ExcV → Env → Prop := fun x E' =>
  ∀ cls dd H' F', Stp c H E F E' σ H' F' → XRel c H' x cls dd → (∀ a, dd = some a → ¬ Foot E' F' a ∧ (Foot E F a ∨ H a = none)) → W cls dd σ H'
theorem PXof.first {c : Cn} {W : WX} {H H1 : Hp} {E E1 : Env} {F F1 : Nat → List Addr} {σ : St} {x : ExcV} {E' : Env} (h : PXof c W H E F σ x E') (s : Stp c H E F E1 σ H1 F1) : PXof c W H1 E1 F1 σ x E' :=
  fun cls dd H' F' s' r n => h cls dd H' F' (s.trans s') r fun a e => ⟨(n a e).1, by
    rcases (n a e).2 with q | q
    · exact s.ft a q
    · exact s.fr.back q⟩

/-! ### judgements -/
abbrev cn (X : Cx) (fa : Nat → Addr) : Cn := ⟨X.K, fa⟩
/-- borrowed: what e is worth, nothing changes -/
structure SB (X : Cx) (fa : Nat → Addr) (e : Expr) (t : TE) (ev : Env → Option D) : Prop where
  pe : PE X e t
  ok : ∀ (E : Env) (d : D), ev E = some d → ∀ (σ : St) (H : Hp) (F : Nat → List Addr) (Q : VK), Sims (cn X fa) H E σ F →
    (∀ v H' f, Ext H H' → Own (cn X fa) H' d v f → (∀ a ∈ f, Foot E F a ∨ H a = none) → Q v H') → t σ H Q
/-- fresh: a new thing, or one that nobody can change -/
structure SF (X : Cx) (fa : Nat → Addr) (e : Expr) (t : TE) (ev : Env → Option D) : Prop where
  pe : PE X e t
  ok : ∀ (E : Env) (d : D), ev E = some d → ∀ (σ : St) (H : Hp) (F : Nat → List Addr) (Q : VK), Sims (cn X fa) H E σ F →
    (∀ v H' f, Ext H H' → Own (cn X fa) H' d v f → (∀ a ∈ f, H a = none) → Q v H') → t σ H Q
/-- with effects -/
structure SE (X : Cx) (fa : Nat → Addr) (W : WX) (e : Expr) (t : TE) (ev : Env → Res (D × Env)) : Prop where
  pe : PE X e t
  ok : ∀ (E : Env) (σ : St) (H : Hp) (F : Nat → List Addr) (Q : VK), Sims (cn X fa) H E σ F →
    RP (ev E) (fun p => ∀ v H' F' f, Stp (cn X fa) H E F p.2 σ H' F' → Got (cn X fa) H E F p.2 F' H' p.1 v f → Q v H') (PXof (cn X fa) W H E F σ) → t σ H Q
/-- tests -/
structure SP0 (X : Cx) (fa : Nat → Addr) (e : Expr) (t : TT) (ev : Env → Option Bool) : Prop where
  pt : PT X e t
  ok : ∀ (E : Env) (b : Bool), ev E = some b → ∀ (σ : St) (H : Hp) (F : Nat → List Addr) (Q : Bool → Hp → Prop), Sims (cn X fa) H E σ F → (∀ H', Ext H H' → Q b H') → t σ H Q
structure SPE (X : Cx) (fa : Nat → Addr) (W : WX) (e : Expr) (t : TT) (ev : Env → Res (Bool × Env)) : Prop where
  pt : PT X e t
  ok : ∀ (E : Env) (σ : St) (H : Hp) (F : Nat → List Addr) (Q : Bool → Hp → Prop), Sims (cn X fa) H E σ F →
    RP (ev E) (fun p => ∀ H' F', Stp (cn X fa) H E F p.2 σ H' F' → Q p.1 H') (PXof (cn X fa) W H E F σ) → t σ H Q
section
variable {X : Cx} {fa : Nat → Addr} {W : WX} {e : Expr} {t : TE} {ev : Env → Option D}
theorem SF.toB (h : SF X fa e t ev) : SB X fa e t ev := ⟨h.pe, fun E d g σ H F Q s k => h.ok E d g σ H F Q s fun v H' f x o n => k v H' f x o fun a ha => .inr (n a ha)⟩
def bP (ev : Env → Option D) : Env → Option D := fun E => match ev E with
  | some d => if d.pure then some d else none
  | none => none
theorem bP_some {E : Env} {d : D} (h : bP ev E = some d) : ev E = some d ∧ d.pure = true := by
  unfold bP at h
  split at h
  · rename_i d' e
    split at h
    · rename_i p
      cases h
      exact ⟨e, p⟩
    · cases h
  · cases h
theorem SB.toF (h : SB X fa e t ev) : SF X fa e t (bP ev) := ⟨h.pe, fun E d g σ H F Q s k => h.ok E d (bP_some g).1 σ H F Q s fun v H' f x o n => by
  have z := own_pure d v f (bP_some g).2 o
  subst z
  exact k v H' [] x o fun a ha => by cases ha⟩
def eF (ev : Env → Option D) : Env → Res (D × Env) := fun E => Res.of ((ev E).map fun d => (d, E))
theorem SF.toE (h : SF X fa e t ev) : SE X fa W e t (eF ev) := ⟨h.pe, fun E σ H F Q s r => by
  obtain ⟨p, e1, r⟩ := r.of
  obtain ⟨d, e2, rfl⟩ := Option.map_eq_some_iff.mp e1
  exact h.ok E d e2 σ H F Q s fun v H' f x o n => r v H' F f (Stp.ext s x) ⟨o, (fun a ha z => by
    obtain ⟨u, hu, _⟩ := foot_at s z
    rw [n a ha] at hu
    cases hu), fun a ha => .inr (n a ha)⟩⟩
end

/-! ### atoms -/
section
variable {X : Cx} {fa : Nat → Addr} {W : WX}
theorem sf_c {e : Expr} {v : V} {d : D} (h : PE X e (tC v)) (o : ∀ H, Own (cn X fa) H d v []) : SF X fa e (tC v) (fun _ => some d) :=
  ⟨h, fun E d' g σ H F Q s k => by cases g; exact k v H [] (Ext.refl H) (o H) fun a ha => by cases ha⟩
theorem sf_int {i : Int} {j pos} : SF X fa (.Constant (.int i) j pos) (tC (.int i)) (fun _ => some (.int i)) := sf_c pe_int fun _ => by simp [Own]
theorem sf_bl {b : Bool} {j pos} : SF X fa (.Constant (.bool b) j pos) (tC (.bl b)) (fun _ => some (.bl b)) := sf_c pe_bl fun _ => by simp [Own]
theorem sf_non {j pos} : SF X fa (.Constant .none j pos) (tC .non) (fun _ => some .non) := sf_c pe_non fun _ => by simp [Own]
theorem sf_str {x : Str} {j pos} : SF X fa (.Constant (.str x) j pos) (tC (.str x)) (fun _ => some (.str x)) := sf_c pe_str fun _ => by simp [Own]
theorem sf_fn {n : Nat} {x : Str} {pos : Pos} (hg : Gl X x) (hm : X.mg x = some (.ref (fa n))) (hd : (x == ("__debug__" : Str)) = false := by decide) : SF X fa (.Name x pos) (tC (.ref (fa n))) (fun _ => some (.fn n)) :=
  sf_c (pe_glob hg hm rfl hd) fun _ => by simp [Own]
theorem sb_var (i : Nat) {x : Str} {pos : Pos} (hN : X.N[i]? = some x := by rfl) (hv : Vis X.env.scope x := by first | exact Or.inl rfl | exact Or.inr (Or.inl rfl) | exact Or.inr (Or.inr rfl)) (hd : (x == ("__debug__" : Str)) = false := by decide)
    (hcd : (x == ("__classdict__" : Str)) = false := by decide) : SB X fa (.Name x pos) (tVar i) (fun E => gv E i) :=
  ⟨pe_var hN hv hd hcd, fun E d g σ H F Q s k => by
    obtain ⟨v, h1, h2⟩ := s.get i d g
    exact ⟨v, h1, k v H (F i) (Ext.refl H) h2 fun a ha => .inl ⟨i, d, g, ha⟩⟩⟩
theorem gv_set_none {E : Env} {i j : Nat} {d : D} (h : gv (E.set i none) j = some d) : gv E j = some d ∧ j ≠ i := by
  rw [gv_some] at h
  by_cases e : i = j
  · subst e
    by_cases l : i < E.length
    · rw [List.getElem?_set_self l] at h; cases h
    · rw [List.getElem?_eq_none (by simpa using l)] at h; cases h
  · rw [List.getElem?_set_ne e] at h
    exact ⟨gv_some.mpr h, fun z => e z.symm⟩
theorem gv_lt {E : Env} {i : Nat} {d : D} (h : gv E i = some d) : i < E.length := by
  rw [gv_some] at h
  exact (List.getElem?_eq_some_iff.mp h).1
theorem sims_drop {c : Cn} {H : Hp} {E : Env} {σ : St} {F : Nat → List Addr} (s : Sims c H E σ F) (i : Nat) : Sims c H (E.set i none) σ F :=
  ⟨by rw [List.length_set]; exact s.len, fun j d g => s.get j d (gv_set_none g).1, fun j k d e n g g' => s.dj j k d e n (gv_set_none g).1 (gv_set_none g').1⟩
theorem foot_drop {E : Env} {F : Nat → List Addr} {i : Nat} {a : Addr} (z : Foot (E.set i none) F a) : Foot E F a := by
  obtain ⟨j, d, g, ha⟩ := z
  exact ⟨j, d, (gv_set_none g).1, ha⟩
theorem foot_dropped {c : Cn} {H : Hp} {E : Env} {σ : St} {F : Nat → List Addr} (s : Sims c H E σ F) {i : Nat} {d : D} (g : gv E i = some d) {a : Addr} (ha : a ∈ F i) : ¬ Foot (E.set i none) F a := by
  rintro ⟨j, d', g', ha'⟩
  obtain ⟨g1, n⟩ := gv_set_none g'
  exact s.dj i j d d' n.symm g g1 a ha ha'
/-- the name's thing is moved out -/
def eMov (i : Nat) : Env → Res (D × Env) := fun E => Res.of ((gv E i).map fun d => (d, E.set i none))
theorem se_mov (i : Nat) {x : Str} {pos : Pos} (hN : X.N[i]? = some x := by rfl) (hv : Vis X.env.scope x := by first | exact Or.inl rfl | exact Or.inr (Or.inl rfl) | exact Or.inr (Or.inr rfl)) (hd : (x == ("__debug__" : Str)) = false := by decide)
    (hcd : (x == ("__classdict__" : Str)) = false := by decide) : SE X fa W (.Name x pos) (tVar i) (eMov i) :=
  ⟨pe_var hN hv hd hcd, fun E σ H F Q s r => by
    obtain ⟨p, e1, r⟩ := r.of
    obtain ⟨d, g, rfl⟩ := Option.map_eq_some_iff.mp e1
    obtain ⟨v, h1, h2⟩ := s.get i d g
    exact ⟨v, h1, r v H F (F i) ⟨sims_drop s i, Fr.refl, fun a z => .inl (foot_drop z)⟩ ⟨h2, fun a ha => foot_dropped s g ha, fun a ha => .inl ⟨i, d, g, ha⟩⟩⟩⟩

/-! ### operators of two values -/
/-- the rule r gives z: a new or a pure thing -/
def OpOk (c : Cn) (r : R2) (op : D → D → Option D) : Prop :=
  ∀ (x y : V) (d e z : D) (f g : List Addr) (H : Hp) (Q : VK), Own c H d x f → Own c H e y g → op d e = some z → (∀ v H' h, Ext H H' → Own c H' z v h → (∀ a ∈ h, H a = none) → Q v H') → r x y H Q
def b2 (op : D → D → Option D) (ea eb : Env → Option D) : Env → Option D := fun E => (ea E).bind fun x => (eb E).bind fun y => op x y
theorem sf_op {a b : Expr} {ta tb : TE} {ea eb : Env → Option D} {op : D → D → Option D} {r : R2} {e : Expr} (hp : PE X a ta → PE X b tb → PE X e (tOp r ta tb)) (ho : OpOk (cn X fa) r op) (ha : SB X fa a ta ea) (hb : SB X fa b tb eb) : SF X fa e (tOp r ta tb) (b2 op ea eb) :=
  ⟨hp ha.pe hb.pe, fun E d g σ H F Q s k => by
    obtain ⟨x, e1, g⟩ := Option.bind_eq_some_iff.mp g
    obtain ⟨y, e2, g⟩ := Option.bind_eq_some_iff.mp g
    refine ha.ok E x e1 σ H F _ s fun v H1 f x1 o1 n1 => ?_
    refine hb.ok E y e2 σ H1 F _ (x1.sims s) fun u H2 f' x2 o2 n2 => ?_
    exact ho v u x y d f f' H2 Q (x2.own o1) o2 g fun w H3 h x3 o3 n3 => k w H3 h ((x1.trans x2).trans x3) o3 fun a ha => x1.back (x2.back (n3 a ha))⟩
def e2 (op : D → D → Option D) (ea eb : Env → Res (D × Env)) : Env → Res (D × Env) := fun E => (ea E).bind fun p => (eb p.2).bind fun q => Res.of ((op p.1 q.1).map fun z => (z, q.2))
theorem se_op {a b : Expr} {ta tb : TE} {ea eb : Env → Res (D × Env)} {op : D → D → Option D} {r : R2} {e : Expr} (hp : PE X a ta → PE X b tb → PE X e (tOp r ta tb)) (ho : OpOk (cn X fa) r op) (ha : SE X fa W a ta ea) (hb : SE X fa W b tb eb) : SE X fa W e (tOp r ta tb) (e2 op ea eb) :=
  ⟨hp ha.pe hb.pe, fun E σ H F Q s r => by
    refine ha.ok E σ H F _ s (r.bind.mono (fun p r v H1 F1 f s1 g1 => ?_) fun _ _ z => z)
    refine hb.ok p.2 σ H1 F1 _ s1.sim (r.bind.mono (fun q r u H2 F2 f' s2 g2 => ?_) fun _ _ z => z.first s1)
    obtain ⟨z, e1, r⟩ := r.of
    obtain ⟨w, e2, rfl⟩ := Option.map_eq_some_iff.mp e1
    refine ho v u p.1 q.1 w f f' H2 Q (g1.later s2).own g2.own e2 fun y H3 h x3 o3 n3 => r y H3 F2 h ((s1.trans s2).trans (Stp.ext s2.sim x3)) ⟨o3, fun a ha z => ?_, fun a ha => ?_⟩
    · obtain ⟨u, hu, _⟩ := foot_at s2.sim z
      rw [n3 a ha] at hu; cases hu
    · exact (s1.trans s2).fr.back (n3 a ha)⟩
/-- of one value -/
def OpOk1 (c : Cn) (r : V → Hp → VK → Prop) (op : D → Option D) : Prop :=
  ∀ (x : V) (d z : D) (f : List Addr) (H : Hp) (Q : VK), Own c H d x f → op d = some z → (∀ v H' h, Ext H H' → Own c H' z v h → (∀ a ∈ h, H a = none) → Q v H') → r x H Q
def b1 (op : D → Option D) (ea : Env → Option D) : Env → Option D := fun E => (ea E).bind op
def e1 (op : D → Option D) (ea : Env → Res (D × Env)) : Env → Res (D × Env) := fun E => (ea E).bind fun p => Res.of ((op p.1).map fun z => (z, p.2))
def tU (r : V → Hp → VK → Prop) (ta : TE) : TE := fun σ H Q => ta σ H fun x H1 => r x H1 Q
theorem sf_u {a : Expr} {ta t : TE} {ea : Env → Option D} {op : D → Option D} {r : V → Hp → VK → Prop} {e : Expr} (hp : PE X a ta → PE X e t) (ht : ∀ σ H Q, tU r ta σ H Q → t σ H Q) (ho : OpOk1 (cn X fa) r op) (ha : SB X fa a ta ea) : SF X fa e t (b1 op ea) :=
  ⟨hp ha.pe, fun E d g σ H F Q s k => by
    obtain ⟨x, e1, g⟩ := Option.bind_eq_some_iff.mp g
    refine ht σ H Q (ha.ok E x e1 σ H F _ s fun v H1 f x1 o1 n1 => ?_)
    exact ho v x d f H1 Q o1 g fun w H3 h x3 o3 n3 => k w H3 h (x1.trans x3) o3 fun a ha => x1.back (n3 a ha)⟩
theorem se_u {a : Expr} {ta t : TE} {ea : Env → Res (D × Env)} {op : D → Option D} {r : V → Hp → VK → Prop} {e : Expr} (hp : PE X a ta → PE X e t) (ht : ∀ σ H Q, tU r ta σ H Q → t σ H Q) (ho : OpOk1 (cn X fa) r op) (ha : SE X fa W a ta ea) : SE X fa W e t (e1 op ea) :=
  ⟨hp ha.pe, fun E σ H F Q s r => by
    refine ht σ H Q (ha.ok E σ H F _ s (r.bind.mono (fun p r v H1 F1 f s1 g1 => ?_) fun _ _ z => z))
    obtain ⟨z, e1, r⟩ := r.of
    obtain ⟨w, e2, rfl⟩ := Option.map_eq_some_iff.mp e1
    refine ho v p.1 w f H1 Q g1.own e2 fun y H3 h x3 o3 n3 => r y H3 F1 h (s1.trans (Stp.ext s1.sim x3)) ⟨o3, fun a ha z => ?_, fun a ha => ?_⟩
    · obtain ⟨u, hu, _⟩ := foot_at s1.sim z
      rw [n3 a ha] at hu; cases hu
    · exact s1.fr.back (n3 a ha)⟩
end
end VS

set_option maxRecDepth 100000
set_option maxHeartbeats 4000000
namespace VS
open PySem L2

/-! ### rules joined -/
def rOr (r r' : R2) : R2 := fun x y H Q => r x y H Q ∨ r' x y H Q
theorem opOr {X : Cx} {f : Value → Value → Sem Value} {r r' : R2} (h : OpR X f r) (h' : OpR X f r') : OpR X f (rOr r r') := by
  intro pins s σ H x y v u Q I rx ry q
  rcases q with q | q
  · exact h pins s σ H x y v u Q I rx ry q
  · exact h' pins s σ H x y v u Q I rx ry q
def cOr (r r' : List V → Hp → VK → Prop) : List V → Hp → VK → Prop := fun xs H Q => r xs H Q ∨ r' xs H Q
theorem callOr {X : Cx} {f : Value} {r r' : List V → Hp → VK → Prop} (h : CallR X f r) (h' : CallR X f r') : CallR X f (cOr r r') := by
  intro pins s σ H xs us Q I rx q
  rcases q with q | q
  · exact h pins s σ H xs us Q I rx q
  · exact h' pins s σ H xs us Q I rx q

/-! ### what lies where -/
section
variable {c : Cn} {H : Hp} {v : V} {f : List Addr}
theorem own_int {i : Int} (h : Own c H (.int i) v f) : v = .int i := by simp only [Own] at h; exact h.1
theorem own_bl {b : Bool} (h : Own c H (.bl b) v f) : v = .bl b := by simp only [Own] at h; exact h.1
theorem own_str {x : Str} (h : Own c H (.str x) v f) : v = .str x := by simp only [Own] at h; exact h.1
theorem own_non (h : Own c H .non v f) : v = .non := by simp only [Own] at h; exact h.1
theorem own_tup {l : List D} (h : Own c H (.tup l) v f) : ∃ a xs, v = .ref a ∧ H a = some (.tup xs) ∧ Owns c H l xs f := by simpa only [Own] using h
theorem own_lst {l : List D} (h : Own c H (.lst l) v f) : ∃ a xs g, v = .ref a ∧ H a = some (.lst xs) ∧ Owns c H l xs g ∧ a ∉ g ∧ f = a :: g := by simpa only [Own] using h
theorem own_mk_int {i : Int} : Own c H (.int i) (.int i) [] := by simp [Own]
theorem own_mk_bl {b : Bool} : Own c H (.bl b) (.bl b) [] := by simp [Own]
theorem own_mk_str {x : Str} : Own c H (.str x) (.str x) [] := by simp [Own]
theorem own_mk_non : Own c H .non .non [] := by simp [Own]
theorem own_mk_tup {l : List D} {a : Addr} {xs : List V} (h : H a = some (.tup xs)) (o : Owns c H l xs f) : Own c H (.tup l) (.ref a) f := by
  simp only [Own]
  exact ⟨a, xs, rfl, h, o⟩
theorem own_mk_lst {l : List D} {a : Addr} {xs : List V} (h : H a = some (.lst xs)) (o : Owns c H l xs f) (n : a ∉ f) : Own c H (.lst l) (.ref a) (a :: f) := by
  simp only [Own]
  exact ⟨a, xs, f, rfl, h, o, n, rfl⟩
/-- a new tuple, a new list, of things that stand -/
theorem own_new_tup {l : List D} {p : Addr} {xs : List V} (hp : H p = none) (o : Owns c H l xs f) : Own c (upd H p (.tup xs)) (.tup l) (.ref p) f := own_mk_tup upd_same ((Ext.new hp).owns o)
theorem owns_fresh {l : List D} {xs : List V} {p : Addr} (hp : H p = none) (o : Owns c H l xs f) : p ∉ f := fun z => by
  obtain ⟨u, hu, _⟩ := owns_at l xs f o p z
  rw [hp] at hu; cases hu
theorem own_new_lst {l : List D} {p : Addr} {xs : List V} (hp : H p = none) (o : Owns c H l xs f) : Own c (upd H p (.lst xs)) (.lst l) (.ref p) (p :: f) := own_mk_lst upd_same ((Ext.new hp).owns o) (owns_fresh hp o)
theorem owns_nil {l : List D} {xs : List V} (o : Owns c H l xs f) (p : pures l = true) : Owns c H l xs [] := by
  have z := owns_pure l xs f p o
  rw [z] at o
  exact o
end
theorem pures_append : ∀ (l m : List D), pures (l ++ m) = (pures l && pures m)
  | [], m => by simp [pures]
  | d :: r, m => by
    show pures (d :: (r ++ m)) = _
    simp only [pures, pures_append r m, Bool.and_assoc]

/-! ### equality -/
mutual
def D.toP : D → Option PyData
  | .non => some .none
  | .bl b => some (.bool b)
  | .int i => some (.int i)
  | .str x => some (.str x)
  | .tup l => (toPs l).map .tuple
  | .lst l => (toPs l).map .list
  | .dK _ _ => none
  | .dT _ _ => none
  | .rol _ => none
  | .fn _ => none
def toPs : List D → Option (List PyData)
  | [] => some []
  | d :: r => d.toP.bind fun p => (toPs r).map fun ps => p :: ps
end
mutual
theorem own_dp {c : Cn} {H : Hp} : ∀ (d : D) (v : V) (f : List Addr) (p : PyData), d.toP = some p → Own c H d v f → Dp c.K H v p
  | .non, v, f, p, e, h => by simp only [D.toP] at e; cases e; rw [own_non h]; exact .non
  | .bl b, v, f, p, e, h => by simp only [D.toP] at e; cases e; rw [own_bl h]; exact .bl b
  | .int i, v, f, p, e, h => by simp only [D.toP] at e; cases e; rw [own_int h]; exact .int i
  | .str x, v, f, p, e, h => by simp only [D.toP] at e; cases e; rw [own_str h]; exact .str x
  | .tup l, v, f, p, e, h => by
    simp only [D.toP] at e
    obtain ⟨ps, e1, rfl⟩ := Option.map_eq_some_iff.mp e
    obtain ⟨a, xs, rfl, h1, h2⟩ := own_tup h
    exact .tup (SqT.of h1) (owns_dp l xs f ps e1 h2)
  | .lst l, v, f, p, e, h => by
    simp only [D.toP] at e
    obtain ⟨ps, e1, rfl⟩ := Option.map_eq_some_iff.mp e
    obtain ⟨a, xs, g, rfl, h1, h2, _⟩ := own_lst h
    exact .lst (SqL.of h1) (owns_dp l xs g ps e1 h2)
  | .dK _ _, v, f, p, e, h => by simp only [D.toP] at e; cases e
  | .dT _ _, v, f, p, e, h => by simp only [D.toP] at e; cases e
  | .rol _, v, f, p, e, h => by simp only [D.toP] at e; cases e
  | .fn _, v, f, p, e, h => by simp only [D.toP] at e; cases e
theorem owns_dp {c : Cn} {H : Hp} : ∀ (l : List D) (xs : List V) (f : List Addr) (ps : List PyData), toPs l = some ps → Owns c H l xs f → DpAll c.K H xs ps
  | [], xs, f, ps, e, h => by
    simp only [toPs] at e
    cases e
    simp only [Owns] at h
    rw [h.1]
    exact .nil
  | d :: r, xs, f, ps, e, h => by
    simp only [toPs] at e
    obtain ⟨p, e1, e⟩ := Option.bind_eq_some_iff.mp e
    obtain ⟨qs, e2, rfl⟩ := Option.map_eq_some_iff.mp e
    simp only [Owns] at h
    obtain ⟨x, ys, g, h', rfl, h1, h2, _, _⟩ := h
    exact .cons (own_dp d x g p e1 h1) (owns_dp r ys h' qs e2 h2)
end
def eqD (x y : D) : Option Bool := match x.toP, y.toP with
  | some p, some q => if SeqAt.shaped p && SeqAt.shaped q then some (PyData.eqv p q) else none
  | _, _ => none
theorem eqD_some {x y : D} {b : Bool} (h : eqD x y = some b) : ∃ p q, x.toP = some p ∧ y.toP = some q ∧ SeqAt.shaped p = true ∧ SeqAt.shaped q = true ∧ b = PyData.eqv p q := by
  unfold eqD at h
  split at h
  · rename_i p q e1 e2
    split at h
    · rename_i z
      cases h
      rw [Bool.and_eq_true] at z
      exact ⟨p, q, e1, e2, z.1, z.2, rfl⟩
    · cases h
  · cases h
def oEq (x y : D) : Option D := (eqD x y).map .bl
def oNe (x y : D) : Option D := (eqD x y).map fun b => .bl (!b)
section
variable {c : Cn}
theorem ok_eq : OpOk c (rEqD c.K) oEq := by
  intro x y d e z f g H Q o1 o2 h k
  obtain ⟨b, hb, rfl⟩ := Option.map_eq_some_iff.mp h
  obtain ⟨p, q, h1, h2, h3, h4, rfl⟩ := eqD_some hb
  exact ⟨p, q, own_dp d x f p h1 o1, own_dp e y g q h2 o2, h3, h4, k _ H [] (Ext.refl H) own_mk_bl fun _ z => by cases z⟩
theorem ok_ne : OpOk c (rNeD c.K) oNe := by
  intro x y d e z f g H Q o1 o2 h k
  obtain ⟨b, hb, rfl⟩ := Option.map_eq_some_iff.mp h
  obtain ⟨p, q, h1, h2, h3, h4, rfl⟩ := eqD_some hb
  exact ⟨p, q, own_dp d x f p h1 o1, own_dp e y g q h2 o2, h3, h4, k _ H [] (Ext.refl H) own_mk_bl fun _ z => by cases z⟩

/-! ### arithmetic -/
def oI (p : Int → Int → Bool) (g : Int → Int → D) (x y : D) : Option D := match x, y with
  | .int i, .int j => if p i j then some (g i j) else none
  | _, _ => none
theorem oI_some {p : Int → Int → Bool} {g : Int → Int → D} {x y z : D} (h : oI p g x y = some z) : ∃ i j, x = .int i ∧ y = .int j ∧ p i j = true ∧ z = g i j := by
  unfold oI at h
  split at h
  · rename_i i j
    split at h
    · rename_i q
      cases h
      exact ⟨i, j, rfl, rfl, q, rfl⟩
    · cases h
  · cases h
@[simp] theorem oI_ii {p : Int → Int → Bool} {g : Int → Int → D} {i j : Int} : oI p g (.int i) (.int j) = if p i j then some (g i j) else none := rfl
theorem ok_I {C : Int → Int → Prop} {g : Int → Int → V} {p : Int → Int → Bool} {g' : Int → Int → D} (hp : ∀ i j, p i j = true → C i j) (hg : ∀ H i j, Own c H (g' i j) (g i j) []) : OpOk c (rI C g) (oI p g') := by
  intro x y d e z f h' H Q o1 o2 h k
  obtain ⟨i, j, rfl, rfl, q, rfl⟩ := oI_some h
  exact ⟨i, j, own_int o1, own_int o2, hp i j q, k _ H [] (Ext.refl H) (hg H i j) fun _ z => by cases z⟩
theorem ok_I0 {g : Int → Int → V} {g' : Int → Int → D} (hg : ∀ H i j, Own c H (g' i j) (g i j) []) : OpOk c (rI0 g) (oI (fun _ _ => true) g') := by
  intro x y d e z f h' H Q o1 o2 h k
  obtain ⟨i, j, rfl, rfl, q, rfl⟩ := oI_some h
  exact ⟨i, j, own_int o1, own_int o2, k _ H [] (Ext.refl H) (hg H i j) fun _ z => by cases z⟩
def oSub : D → D → Option D := oI (fun _ _ => true) fun i j => .int (i - j)
def small64 (i : Int) : Bool := decide (-(2 ^ 64) < i) && decide (i < 2 ^ 64)
def mulOk (i j : Int) : Bool := small64 i || small64 j || decide (i.natAbs.log2 + j.natAbs.log2 < 1000000)
def oMul : D → D → Option D := oI mulOk fun i j => .int (i * j)
def divOk (j : Int) : Bool := decide (0 < j) && (decide (j < 1073741824) || decide (j.natAbs.log2 < 9000))
def oDiv : D → D → Option D := oI (fun _ j => divOk j) fun i j => .int (i / j)
def oMod : D → D → Option D := oI (fun _ j => decide (0 < j)) fun i j => .int (i % j)
def oPow : D → D → Option D := oI (fun i j => decide (0 ≤ j) && decide (j ≤ 1000000) && decide (i.natAbs < 2 ^ 64)) fun i j => .int (i ^ j.toNat)
def oShl : D → D → Option D := oI (fun i j => decide (0 ≤ j) && decide (j ≤ 1000000) && decide (i.natAbs < 2 ^ 64)) fun i j => .int (i * 2 ^ j.toNat)
def oLt : D → D → Option D := oI (fun _ _ => true) fun i j => .bl (decide (i < j))
def oLe : D → D → Option D := oI (fun _ _ => true) fun i j => .bl (decide (i ≤ j))
def oGt : D → D → Option D := oI (fun _ _ => true) fun i j => .bl (decide (j < i))
def oGe : D → D → Option D := oI (fun _ _ => true) fun i j => .bl (decide (j ≤ i))
theorem ok_sub : OpOk c (rI0 fun i j => .int (i - j)) oSub := ok_I0 fun _ _ _ => own_mk_int
theorem ok_lt : OpOk c (rI0 fun i j => .bl (decide (i < j))) oLt := ok_I0 fun _ _ _ => own_mk_bl
theorem ok_le : OpOk c (rI0 fun i j => .bl (decide (i ≤ j))) oLe := ok_I0 fun _ _ _ => own_mk_bl
theorem ok_gt : OpOk c (rI0 fun i j => .bl (decide (j < i))) oGt := ok_I0 fun _ _ _ => own_mk_bl
theorem ok_ge : OpOk c (rI0 fun i j => .bl (decide (j ≤ i))) oGe := ok_I0 fun _ _ _ => own_mk_bl
theorem ok_mod : OpOk c (rI (fun _ j => 0 < j) fun i j => .int (i % j)) oMod := ok_I (fun _ _ h => of_decide_eq_true h) fun _ _ _ => own_mk_int
theorem ok_pow : OpOk c (rI CPow fun i j => .int (i ^ j.toNat)) oPow := ok_I (fun _ _ h => by
  simp only [Bool.and_eq_true, decide_eq_true_eq] at h
  exact ⟨h.1.1, h.1.2, h.2⟩) fun _ _ _ => own_mk_int
theorem ok_shl : OpOk c (rI CPow fun i j => .int (i * 2 ^ j.toNat)) oShl := ok_I (fun _ _ h => by
  simp only [Bool.and_eq_true, decide_eq_true_eq] at h
  exact ⟨h.1.1, h.1.2, h.2⟩) fun _ _ _ => own_mk_int
abbrev rMul : R2 := rOr (rI CMul fun i j => .int (i * j)) (rI CMulW fun i j => .int (i * j))
abbrev rDiv : R2 := rOr (rI CDiv fun i j => .int (i / j)) (rI CDivW fun i j => .int (i / j))
theorem ok_mul : OpOk c rMul oMul := by
  intro x y d e z f h' H Q o1 o2 h k
  obtain ⟨i, j, rfl, rfl, q, rfl⟩ := oI_some h
  have fin : Q (.int (i * j)) H := k _ H [] (Ext.refl H) own_mk_int fun _ z => by cases z
  unfold mulOk small64 at q
  simp only [Bool.or_eq_true, Bool.and_eq_true, decide_eq_true_eq] at q
  rcases q with (q | q) | q
  · exact .inl ⟨i, j, own_int o1, own_int o2, .inl q, fin⟩
  · exact .inl ⟨i, j, own_int o1, own_int o2, .inr q, fin⟩
  · exact .inr ⟨i, j, own_int o1, own_int o2, q, fin⟩
theorem ok_div : OpOk c rDiv oDiv := by
  intro x y d e z f h' H Q o1 o2 h k
  obtain ⟨i, j, rfl, rfl, q, rfl⟩ := oI_some h
  have fin : Q (.int (i / j)) H := k _ H [] (Ext.refl H) own_mk_int fun _ z => by cases z
  unfold divOk at q
  simp only [Bool.or_eq_true, Bool.and_eq_true, decide_eq_true_eq] at q
  rcases q with ⟨q0, q | q⟩
  · exact .inl ⟨i, j, own_int o1, own_int o2, ⟨q0, q⟩, fin⟩
  · exact .inr ⟨i, j, own_int o1, own_int o2, ⟨q0, q⟩, fin⟩

/-! ### + of numbers, texts, tuples, lists -/
def LIM : Nat := 1000000
theorem lim_line : LIM ≤ sizeLine := by rw [sizeLine_eq]; decide
def oAdd (x y : D) : Option D := match x, y with
  | .int i, .int j => some (.int (i + j))
  | .tup l, .tup m => if decide (l.length + m.length ≤ LIM) && pures l && pures m then some (.tup (l ++ m)) else none
  | .lst l, .lst m => if decide (l.length + m.length ≤ LIM) && pures l && pures m then some (.lst (l ++ m)) else none
  | .str x, .str y => if x.length + y.length ≤ LIM then some (.str (x ++ y)) else none
  | _, _ => none
abbrev rAddA (K : PySem.W.Frag) : R2 := rOr (rI0 fun i j => .int (i + j)) (rOr (rCatA K) (rOr rCat (fun x y H Q => ∃ i j, x = .str i ∧ y = .str j ∧ i.length + j.length ≤ sizeLine ∧ Q (.str (i ++ j)) H)))
theorem opAdd {X : Cx} : OpR X (binaryOp .Add) (rAddA X.K) := opOr op_add (opOr op_catA (opOr op_cat op_add_str))
theorem ok_add : OpOk c (rAddA c.K) oAdd := by
  intro x y d e z f g H Q o1 o2 h k
  unfold oAdd at h
  split at h
  · rename_i i j
    cases h
    exact .inl ⟨i, j, own_int o1, own_int o2, k _ H [] (Ext.refl H) own_mk_int fun _ z => by cases z⟩
  · rename_i l m
    split at h
    · rename_i q
      cases h
      simp only [Bool.and_eq_true, decide_eq_true_eq] at q
      obtain ⟨a, xs, rfl, h1, h2⟩ := own_tup o1
      obtain ⟨b, ys, rfl, h3, h4⟩ := own_tup o2
      have h2 := owns_nil h2 q.1.2
      have h4 := owns_nil h4 q.2
      have e1 := owns_len l xs _ h2
      have e2 := owns_len m ys _ h4
      have hh : Owns c H (l ++ m) (xs ++ ys) [] := owns_app l xs [] m ys [] h2 h4 fun _ z => by cases z
      have hL := lim_line
      refine .inr (.inl ⟨a, b, xs, ys, rfl, rfl, SqT.of h1, SqT.of h3, by omega, fun e0 => ?_, fun _ e0 => ?_, fun _ _ p hp => ?_⟩)
      · refine k _ H [] (Ext.refl H) (own_mk_tup h3 ?_) fun _ z => by cases z
        rw [e0] at hh
        exact hh
      · refine k _ H [] (Ext.refl H) (own_mk_tup h1 ?_) fun _ z => by cases z
        rw [e0, List.append_nil] at hh
        exact hh
      · exact k _ _ [] (Ext.new hp) (own_new_tup hp hh) fun _ z => by cases z
    · cases h
  · rename_i l m
    split at h
    · rename_i q
      cases h
      simp only [Bool.and_eq_true, decide_eq_true_eq] at q
      obtain ⟨a, xs, g1, rfl, h1, h2, _⟩ := own_lst o1
      obtain ⟨b, ys, g2, rfl, h3, h4, _⟩ := own_lst o2
      have h2 := owns_nil h2 q.1.2
      have h4 := owns_nil h4 q.2
      have e1 := owns_len l xs _ h2
      have e2 := owns_len m ys _ h4
      have hL := lim_line
      refine .inr (.inr (.inl ⟨a, b, xs, ys, rfl, rfl, h1, h3, by omega, fun p hp => ?_⟩))
      refine k _ _ [p] (Ext.new hp) (own_new_lst hp (owns_app l xs [] m ys [] h2 h4 fun _ z => by cases z)) fun a ha => ?_
      rw [List.mem_singleton] at ha
      rw [ha]; exact hp
    · cases h
  · rename_i x' y'
    split at h
    · rename_i q
      cases h
      have hL := lim_line
      exact .inr (.inr (.inr ⟨x', y', own_str o1, own_str o2, by omega, k _ H [] (Ext.refl H) own_mk_str fun _ z => by cases z⟩))
    · cases h
  · cases h

/-! ### in -/
def D.flat : D → Bool
  | .non => true
  | .bl _ => true
  | .int _ => true
  | .str _ => true
  | _ => false
def D.v : D → V
  | .non => .non
  | .bl b => .bl b
  | .int i => .int i
  | .str x => .str x
  | _ => .non
theorem own_flat {H : Hp} {d : D} {v : V} {f : List Addr} (h : d.flat = true) (o : Own c H d v f) : v = d.v ∧ flatV v = true := by
  cases d with
  | non => rw [own_non o]; exact ⟨rfl, rfl⟩
  | bl b => rw [own_bl o]; exact ⟨rfl, rfl⟩
  | int i => rw [own_int o]; exact ⟨rfl, rfl⟩
  | str x => rw [own_str o]; exact ⟨rfl, rfl⟩
  | _ => simp [D.flat] at h
theorem owns_flat {H : Hp} : ∀ (l : List D) (xs : List V) (f : List Addr), l.all D.flat = true → Owns c H l xs f → xs = l.map D.v ∧ xs.all flatV = true
  | [], xs, f, _, o => by simp only [Owns] at o; rw [o.1]; exact ⟨rfl, rfl⟩
  | d :: r, xs, f, h, o => by
    simp only [Owns] at o
    obtain ⟨x, ys, g, h', rfl, h1, h2, _, _⟩ := o
    simp only [List.all_cons, Bool.and_eq_true] at h
    obtain ⟨e1, e2⟩ := own_flat h.1 h1
    obtain ⟨e3, e4⟩ := owns_flat r ys h' h.2 h2
    constructor
    · rw [e1, e3]; rfl
    · rw [List.all_cons, e2, e4]; rfl
def seqOf : D → Option (List D)
  | .tup l => some l
  | .lst l => some l
  | _ => none
def oIn (neg : Bool) (x y : D) : Option D := (seqOf y).bind fun l => if x.flat && l.all D.flat then some (.bl (if neg then !inV x.v (l.map D.v) else inV x.v (l.map D.v))) else none
theorem ok_in {neg : Bool} : OpOk c (rIn c.K neg) (oIn neg) := by
  intro x y d e z f g H Q o1 o2 h k
  obtain ⟨l, e1, h⟩ := Option.bind_eq_some_iff.mp h
  split at h
  · rename_i q
    rw [Bool.and_eq_true] at q
    cases h
    obtain ⟨hx, fx⟩ := own_flat q.1 o1
    have key : ∃ a xs g', y = .ref a ∧ (SqL c.K H a xs ∨ SqT c.K H a xs) ∧ Owns c H l xs g' := by
      cases e with
      | tup m =>
        cases e1
        obtain ⟨a, xs, rfl, h1, h2⟩ := own_tup o2
        exact ⟨a, xs, _, rfl, .inr (SqT.of h1), h2⟩
      | lst m =>
        cases e1
        obtain ⟨a, xs, g', rfl, h1, h2, _⟩ := own_lst o2
        exact ⟨a, xs, _, rfl, .inl (SqL.of h1), h2⟩
      | _ => cases e1
    obtain ⟨a, xs, g', rfl, hq, ho⟩ := key
    obtain ⟨e3, e4⟩ := owns_flat l xs g' q.2 ho
    refine ⟨a, xs, rfl, hq, fx, e4, k _ H [] (Ext.refl H) ?_ fun _ z => by cases z⟩
    rw [hx, e3]
    exact own_mk_bl
  · cases h

/-! ### is None -/
def isN : D → Bool
  | .non => true
  | _ => false
theorem own_isN {H : Hp} {d : D} {v : V} {f : List Addr} (o : Own c H d v f) : decide (v = .non) = isN d := by
  cases d with
  | non => rw [own_non o]; rfl
  | bl b => rw [own_bl o]; rfl
  | int i => rw [own_int o]; rfl
  | str x => rw [own_str o]; rfl
  | tup l => obtain ⟨a, xs, rfl, _⟩ := own_tup o; rfl
  | lst l => obtain ⟨a, xs, g, rfl, _⟩ := own_lst o; rfl
  | dK ks l => simp only [Own] at o; obtain ⟨a, xs, g, rfl, _⟩ := o; rfl
  | dT ks l => simp only [Own] at o; obtain ⟨a, xs, g, rfl, _⟩ := o; rfl
  | rol l => simp only [Own] at o; obtain ⟨⟨a, rfl, _⟩, _⟩ := o; rfl
  | fn n => simp only [Own] at o; rw [o.1]; rfl
def oIs (x y : D) : Option D := if isN y then some (.bl (isN x)) else none
def oIsN (x y : D) : Option D := if isN y then some (.bl (!isN x)) else none
theorem ok_is : OpOk c (fun x y H Q => y = .non ∧ Q (.bl (decide (x = .non))) H) oIs := by
  intro x y d e z f g H Q o1 o2 h k
  unfold oIs at h
  split at h
  · rename_i q
    cases h
    refine ⟨?_, k _ H [] (Ext.refl H) ?_ fun _ z => by cases z⟩
    · have := own_isN o2
      rw [q] at this
      exact of_decide_eq_true this
    · rw [own_isN o1]; exact own_mk_bl
  · cases h
theorem ok_isN : OpOk c (fun x y H Q => y = .non ∧ Q (.bl (!decide (x = .non))) H) oIsN := by
  intro x y d e z f g H Q o1 o2 h k
  unfold oIsN at h
  split at h
  · rename_i q
    cases h
    refine ⟨?_, k _ H [] (Ext.refl H) ?_ fun _ z => by cases z⟩
    · have := own_isN o2
      rw [q] at this
      exact of_decide_eq_true this
    · rw [own_isN o1]; exact own_mk_bl
  · cases h
def oNeg (x : D) : Option D := match x with
  | .int i => some (.int (-i))
  | _ => none
theorem ok_neg : OpOk1 c (rU fun i => .int (-i)) oNeg := by
  intro x d z f H Q o1 h k
  unfold oNeg at h
  split at h
  · cases h
    exact ⟨_, own_int o1, k _ H [] (Ext.refl H) own_mk_int fun _ z => by cases z⟩
  · cases h
end

/-! ### subscripts -/
theorem atI_ix {α : Type} {l : List α} {i : Int} {d : α} (h : atI l i = some d) : ∃ j : Nat, ixN l.length i = some j ∧ l[j]? = some d := by
  unfold atI at h
  obtain ⟨j, e1, e2⟩ := Option.bind_eq_some_iff.mp h
  exact ⟨j, e1, e2⟩
theorem atI_of {α : Type} {l : List α} {i : Int} {d : α} {j : Nat} (h : ixN l.length i = some j) (h2 : l[j]? = some d) : atI l i = some d := by
  unfold atI
  rw [h]
  exact h2
def oIx (x y : D) : Option D := match x, y with
  | .tup l, .int i => atI l i
  | .lst l, .int i => atI l i
  | .rol l, .int i => (atI l i).map .int
  | _, _ => none
theorem ix_read {c : Cn} {H : Hp} {x y : V} {d e z : D} {f g : List Addr} (o1 : Own c H d x f) (o2 : Own c H e y g) (h : oIx d e = some z) : ∃ w h', Own c H z w h' ∧ (∀ a ∈ h', a ∈ f) ∧ ∀ Q : VK, Q w H → rIx c.K x y H Q := by
  unfold oIx at h
  split at h
  · rename_i l i
    obtain ⟨a, xs, rfl, h1, h2⟩ := own_tup o1
    obtain ⟨j, e1, e2⟩ := atI_ix h
    obtain ⟨w, h', e3, e4, e5⟩ := owns_get l xs f j z h2 e2
    refine ⟨w, h', e4, e5, fun Q q => .inr (.inl ⟨a, xs, i, w, rfl, own_int o2, SqT.of h1, atI_of (j := j) ?_ e3, q⟩)⟩
    rw [← owns_len l xs f h2]; exact e1
  · rename_i l i
    obtain ⟨a, xs, g', rfl, h1, h2, _, rfl⟩ := own_lst o1
    obtain ⟨j, e1, e2⟩ := atI_ix h
    obtain ⟨w, h', e3, e4, e5⟩ := owns_get l xs g' j z h2 e2
    refine ⟨w, h', e4, fun b hb => List.mem_cons_of_mem _ (e5 b hb), fun Q q => .inl ⟨a, xs, i, w, rfl, own_int o2, SqL.of h1, atI_of (j := j) ?_ e3, q⟩⟩
    rw [← owns_len l xs g' h2]; exact e1
  · rename_i l i
    simp only [Own] at o1
    obtain ⟨⟨a, rfl, h1⟩, _⟩ := o1
    obtain ⟨k, e1, rfl⟩ := Option.map_eq_some_iff.mp h
    obtain ⟨j, e1, e2⟩ := atI_ix e1
    refine ⟨.int k, [], own_mk_int, (fun b hb => by cases hb), fun Q q => .inl ⟨a, _, i, .int k, rfl, own_int o2, h1.sq, atI_of (j := j) ?_ ?_, q⟩⟩
    · rw [List.length_map]; exact e1
    · rw [List.getElem?_map, e2]; rfl
  · cases h
section
variable {X : Cx} {fa : Nat → Addr} {W : WX} {a b : Expr} {ta tb : TE} {pos : Pos}
theorem sb_ix {ea eb : Env → Option D} (ha : SB X fa a ta ea) (hb : SB X fa b tb eb) (hs : PlainIx b := by exact fun _ _ => rfl) : SB X fa (.Subscript a b pos) (tOp (rIx X.K) ta tb) (b2 oIx ea eb) :=
  ⟨pe_ix ix_seq ha.pe hb.pe hs, fun E d g σ H F Q s k => by
    obtain ⟨x, e1, g⟩ := Option.bind_eq_some_iff.mp g
    obtain ⟨y, e2, g⟩ := Option.bind_eq_some_iff.mp g
    refine ha.ok E x e1 σ H F _ s fun v H1 f x1 o1 n1 => ?_
    refine hb.ok E y e2 σ H1 F _ (x1.sims s) fun u H2 f' x2 o2 n2 => ?_
    obtain ⟨w, h', q1, q2, q3⟩ := ix_read (x2.own o1) o2 g
    exact q3 Q (k w H2 h' (x1.trans x2) q1 fun a ha => n1 a (q2 a ha))⟩
/-- name[e], e with effects -/
def eIxV (i : Nat) (eb : Env → Res (D × Env)) : Env → Res (D × Env) := fun E => match gv E i with
  | none => .no
  | some _ => (eb E).bind fun p => Res.of ((gv p.2 i).bind fun d => (oIx d p.1).bind fun z => if z.pure then some (z, p.2) else none)
theorem se_ixV (i : Nat) {eb : Env → Res (D × Env)} {x : Str} {npos : Pos} (hb : SE X fa W b tb eb) (hs : PlainIx b := by exact fun _ _ => rfl) (hN : X.N[i]? = some x := by rfl) (hv : Vis X.env.scope x := by first | exact Or.inl rfl | exact Or.inr (Or.inl rfl) | exact Or.inr (Or.inr rfl)) (hd : (x == ("__debug__" : Str)) = false := by decide)
    (hcd : (x == ("__classdict__" : Str)) = false := by decide) : SE X fa W (.Subscript (.Name x npos) b pos) (tOp (rIx X.K) (tVar i) tb) (eIxV i eb) :=
  ⟨pe_ix ix_seq (pe_var hN hv hd hcd) hb.pe hs, fun E σ H F Q s r => by
    unfold eIxV at r
    split at r
    · exact r.elim
    · rename_i d0 g0
      obtain ⟨v, h1, h2⟩ := s.get i d0 g0
      refine ⟨v, h1, hb.ok E σ H F _ s (r.bind.mono (fun p r u H1 F1 f s1 g1 => ?_) fun _ _ z => z)⟩
      obtain ⟨q, e1, r⟩ := r.of
      obtain ⟨d, g2, e1⟩ := Option.bind_eq_some_iff.mp e1
      obtain ⟨z, e2, e1⟩ := Option.bind_eq_some_iff.mp e1
      split at e1
      · rename_i pz
        cases e1
        obtain ⟨v', h3, h4⟩ := s1.sim.get i d g2
        rw [h1] at h3
        cases h3
        obtain ⟨w, h', q1, q2, q3⟩ := ix_read h4 g1.own e2
        have e0 := own_pure z w h' pz q1
        subst e0
        exact q3 Q (r w H1 F1 [] s1 ⟨q1, fun _ z => (by cases z), fun _ z => (by cases z)⟩)
      · cases e1⟩
end
end VS

set_option maxRecDepth 100000
set_option maxHeartbeats 4000000
namespace VS
open PySem L2

/-! ### argument lists, displays -/
structure GotS (c : Cn) (H : Hp) (E : Env) (F : Nat → List Addr) (E' : Env) (F' : Nat → List Addr) (H' : Hp) (ds : List D) (vs : List V) (f : List Addr) : Prop where
  own : Owns c H' ds vs f
  dj : ∀ a ∈ f, ¬ Foot E' F' a
  new : ∀ a ∈ f, Foot E F a ∨ H a = none
structure SFs (X : Cx) (fa : Nat → Addr) (es : List Expr) (t : TA) (ev : Env → Option (List D)) : Prop where
  pa : PA X es t
  len : ∀ E ds, ev E = some ds → ds.length = es.length
  ok : ∀ (E : Env) (ds : List D), ev E = some ds → ∀ (σ : St) (H : Hp) (F : Nat → List Addr) (Q : List V → Hp → Prop), Sims (cn X fa) H E σ F →
    (∀ vs H' f, Ext H H' → Owns (cn X fa) H' ds vs f → (∀ a ∈ f, H a = none) → Q vs H') → t σ H Q
structure SEs (X : Cx) (fa : Nat → Addr) (W : WX) (es : List Expr) (t : TA) (ev : Env → Res (List D × Env)) : Prop where
  pa : PA X es t
  len : ∀ E ds E', ev E = .ok (ds, E') → ds.length = es.length
  ok : ∀ (E : Env) (σ : St) (H : Hp) (F : Nat → List Addr) (Q : List V → Hp → Prop), Sims (cn X fa) H E σ F →
    RP (ev E) (fun p => ∀ vs H' F' f, Stp (cn X fa) H E F p.2 σ H' F' → GotS (cn X fa) H E F p.2 F' H' p.1 vs f → Q vs H') (PXof (cn X fa) W H E F σ) → t σ H Q
section
variable {X : Cx} {fa : Nat → Addr} {W : WX}
def fNil : Env → Option (List D) := fun _ => some []
def fCons (ea : Env → Option D) (er : Env → Option (List D)) : Env → Option (List D) := fun E => (ea E).bind fun d => (er E).bind fun r => some (d :: r)
theorem sfs_nil : SFs X fa [] tNil fNil := ⟨pa_nil, fun E ds h => by cases h; rfl, fun E ds g σ H F Q s k => by cases g; exact k [] H [] (Ext.refl H) (by simp [Owns]) fun _ z => by cases z⟩
theorem sfs_cons {e : Expr} {es : List Expr} {ta : TE} {t : TA} {ea : Env → Option D} {er : Env → Option (List D)} (ha : SF X fa e ta ea) (hr : SFs X fa es t er) (hs : starEach (e :: es) X.env = (false, eval e X.env) :: starEach es X.env := by rfl) : SFs X fa (e :: es) (tCons ta t) (fCons ea er) :=
  ⟨pa_cons ha.pe hr.pa hs, fun E ds h => by
    obtain ⟨d, e1, h⟩ := Option.bind_eq_some_iff.mp h
    obtain ⟨r, e2, h⟩ := Option.bind_eq_some_iff.mp h
    cases h
    rw [List.length_cons, List.length_cons, hr.len E r e2], fun E ds g σ H F Q s k => by
    obtain ⟨d, e1, g⟩ := Option.bind_eq_some_iff.mp g
    obtain ⟨r, e2, g⟩ := Option.bind_eq_some_iff.mp g
    cases g
    refine ha.ok E d e1 σ H F _ s fun v H1 f x1 o1 n1 => ?_
    refine hr.ok E r e2 σ H1 F _ (x1.sims s) fun vs H2 g x2 o2 n2 => ?_
    refine k (v :: vs) H2 (f ++ g) (x1.trans x2) ?_ fun a ha => ?_
    · simp only [Owns]
      refine ⟨v, vs, f, g, rfl, x2.own o1, o2, fun a ha z => ?_, rfl⟩
      obtain ⟨u, hu, _⟩ := own_at d v f o1 a ha
      rw [n2 a z] at hu; cases hu
    · rcases List.mem_append.mp ha with ha | ha
      · exact n1 a ha
      · exact x1.back (n2 a ha)⟩
def eNil : Env → Res (List D × Env) := fun E => .ok ([], E)
def eCons (ea : Env → Res (D × Env)) (er : Env → Res (List D × Env)) : Env → Res (List D × Env) := fun E => (ea E).bind fun p => (er p.2).bind fun q => .ok (p.1 :: q.1, q.2)
theorem res_bind_ok {α β : Type} {r : Res α} {k : α → Res β} {b : β} (h : r.bind k = .ok b) : ∃ a, r = .ok a ∧ k a = .ok b := by
  cases r with
  | ok a => exact ⟨a, rfl, h⟩
  | exc x E => cases h
  | no => cases h
theorem ses_nil : SEs X fa W [] tNil eNil := ⟨pa_nil, fun E ds E' h => by cases h; rfl, fun E σ H F Q s r => r [] H F [] (Stp.refl s) ⟨by simp [Owns], fun _ z => (by cases z), fun _ z => (by cases z)⟩⟩
theorem ses_cons {e : Expr} {es : List Expr} {ta : TE} {t : TA} {ea : Env → Res (D × Env)} {er : Env → Res (List D × Env)} (ha : SE X fa W e ta ea) (hr : SEs X fa W es t er) (hs : starEach (e :: es) X.env = (false, eval e X.env) :: starEach es X.env := by rfl) : SEs X fa W (e :: es) (tCons ta t) (eCons ea er) :=
  ⟨pa_cons ha.pe hr.pa hs, fun E ds E' h => by
    obtain ⟨p, e1, h⟩ := res_bind_ok h
    obtain ⟨q, e2, h⟩ := res_bind_ok h
    cases h
    rw [List.length_cons, List.length_cons, hr.len p.2 q.1 q.2 e2], fun E σ H F Q s r => by
    refine ha.ok E σ H F _ s (r.bind.mono (fun p r v H1 F1 f s1 g1 => ?_) fun _ _ z => z)
    refine hr.ok p.2 σ H1 F1 _ s1.sim (r.bind.mono (fun q r vs H2 F2 g s2 g2 => ?_) fun _ _ z => z.first s1)
    have g3 := g1.later s2
    refine r (v :: vs) H2 F2 (f ++ g) (s1.trans s2) ⟨?_, fun a ha => ?_, fun a ha => ?_⟩
    · simp only [Owns]
      refine ⟨v, vs, f, g, rfl, g3.own, g2.own, fun a ha z => ?_, rfl⟩
      rcases g2.new a z with q | q
      · exact g1.dj a ha q
      · obtain ⟨u, hu, _⟩ := own_at _ _ _ g1.own a ha
        rw [q] at hu; cases hu
    · rcases List.mem_append.mp ha with ha | ha
      · exact g3.dj a ha
      · exact g2.dj a ha
    · rcases List.mem_append.mp ha with ha | ha
      · exact g1.new a ha
      · rcases g2.new a ha with q | q
        · exact s1.ft a q
        · exact s1.fr.back q⟩
def small (n : Nat) : Prop := n ≤ 1000
theorem small_line {n : Nat} (h : n ≤ 1000) : n ≤ sizeLine := Nat.le_trans h (by decide)
def fTup (ev : Env → Option (List D)) : Env → Option D := fun E => (ev E).map .tup
def fLst (ev : Env → Option (List D)) : Env → Option D := fun E => (ev E).map .lst
theorem sf_tup {es : List Expr} {t : TA} {ev : Env → Option (List D)} {x1 pos} (h : SFs X fa es t ev) (hl : es.length ≤ 1000 := by decide) : SF X fa (.Tuple es x1 pos) (tTup t) (fTup ev) :=
  ⟨pe_tup h.pa, fun E d g σ H F Q s k => by
    obtain ⟨ds, e1, rfl⟩ := Option.map_eq_some_iff.mp g
    refine h.ok E ds e1 σ H F _ s fun vs H1 f x1 o1 n1 => ⟨?_, fun p hp => ?_⟩
    · rw [← owns_len ds vs f o1, h.len E ds e1]; exact small_line hl
    · exact k _ _ f (x1.trans (Ext.new hp)) (own_new_tup hp o1) n1⟩
theorem sf_lst {es : List Expr} {t : TA} {ev : Env → Option (List D)} {pos} (h : SFs X fa es t ev) (hl : es.length ≤ 1000 := by decide) : SF X fa (.List es pos) (tLst t) (fLst ev) :=
  ⟨pe_lst h.pa, fun E d g σ H F Q s k => by
    obtain ⟨ds, e1, rfl⟩ := Option.map_eq_some_iff.mp g
    refine h.ok E ds e1 σ H F _ s fun vs H1 f x1 o1 n1 => ⟨?_, fun p hp => ?_⟩
    · rw [← owns_len ds vs f o1, h.len E ds e1]; exact small_line hl
    · refine k _ _ (p :: f) (x1.trans (Ext.new hp)) (own_new_lst hp o1) fun a ha => ?_
      rcases List.mem_cons.mp ha with rfl | ha
      · exact x1.back hp
      · exact n1 a ha⟩
def eTup (ev : Env → Res (List D × Env)) : Env → Res (D × Env) := fun E => (ev E).bind fun p => .ok (.tup p.1, p.2)
def eLst (ev : Env → Res (List D × Env)) : Env → Res (D × Env) := fun E => (ev E).bind fun p => .ok (.lst p.1, p.2)
theorem rp_keep {α : Type} {r : Res α} {P : α → Prop} {PX : ExcV → Env → Prop} (h : RP r P PX) : RP r (fun a => r = .ok a ∧ P a) PX := by
  cases r with
  | ok a => exact ⟨rfl, h⟩
  | exc x E => exact h
  | no => exact h
theorem se_tup {es : List Expr} {t : TA} {ev : Env → Res (List D × Env)} {x1 pos} (h : SEs X fa W es t ev) (hl : es.length ≤ 1000 := by decide) : SE X fa W (.Tuple es x1 pos) (tTup t) (eTup ev) :=
  ⟨pe_tup h.pa, fun E σ H F Q s r => by
    refine h.ok E σ H F _ s ((rp_keep r.bind).mono (fun p r vs H1 F1 f s1 g1 => ⟨?_, fun q hq => ?_⟩) fun _ _ z => z)
    · rw [← owns_len p.1 vs f g1.own, h.len E p.1 p.2 r.1]; exact small_line hl
    · exact r.2 _ _ F1 f (s1.trans (Stp.ext s1.sim (Ext.new hq))) ⟨own_new_tup hq g1.own, g1.dj, g1.new⟩⟩
theorem fresh_foot {c : Cn} {H : Hp} {E : Env} {σ : St} {F : Nat → List Addr} (s : Sims c H E σ F) {a : Addr} (n : H a = none) : ¬ Foot E F a := fun z => by
  obtain ⟨u, hu, _⟩ := foot_at s z
  rw [n] at hu; cases hu
theorem se_lst {es : List Expr} {t : TA} {ev : Env → Res (List D × Env)} {pos} (h : SEs X fa W es t ev) (hl : es.length ≤ 1000 := by decide) : SE X fa W (.List es pos) (tLst t) (eLst ev) :=
  ⟨pe_lst h.pa, fun E σ H F Q s r => by
    refine h.ok E σ H F _ s ((rp_keep r.bind).mono (fun p r vs H1 F1 f s1 g1 => ⟨?_, fun q hq => ?_⟩) fun _ _ z => z)
    · rw [← owns_len p.1 vs f g1.own, h.len E p.1 p.2 r.1]; exact small_line hl
    · refine r.2 _ _ F1 (q :: f) (s1.trans (Stp.ext s1.sim (Ext.new hq))) ⟨own_new_lst hq g1.own, fun a ha => ?_, fun a ha => ?_⟩
      · rcases List.mem_cons.mp ha with rfl | ha
        · exact fresh_foot s1.sim hq
        · exact g1.dj a ha
      · rcases List.mem_cons.mp ha with rfl | ha
        · exact s1.fr.back hq
        · exact g1.new a ha⟩

/-! ### built-ins of one argument -/
section
variable {a : Expr} {ta : TE} {x : Str} {p pos : Pos} {id T : String} {r : List V → Hp → VK → Prop} {op : D → Option D}
theorem sf_b1 {ea : Env → Option D} (hc : CallR X (.builtin id) r) (ho : OpOk1 (cn X fa) (fun v H Q => r [v] H Q) op) (hv : bootBuiltins x = some (.builtin id)) (hm : X.mg x = none) (ha : SB X fa a ta ea)
    (hg : Gl X x := by rfl) (hs : starEach [a] X.env = (false, eval a X.env) :: starEach [] X.env := by rfl) (hn : x ≠ "__name__" := by decide) (hdb : (x == ("__debug__" : Str)) = false := by decide) : SF X fa (.Call (.Name x p) [a] [] pos) (tCB r (tCons ta tNil)) (b1 op ea) :=
  sf_u (r := fun v H Q => r [v] H Q) (fun pe => pe_callB hc hg hm hv (pa_cons pe pa_nil hs) hn hdb hs rfl) (fun _ _ _ h => h) ho ha
theorem se_b1 {ea : Env → Res (D × Env)} (hc : CallR X (.builtin id) r) (ho : OpOk1 (cn X fa) (fun v H Q => r [v] H Q) op) (hv : bootBuiltins x = some (.builtin id)) (hm : X.mg x = none) (ha : SE X fa W a ta ea)
    (hg : Gl X x := by rfl) (hs : starEach [a] X.env = (false, eval a X.env) :: starEach [] X.env := by rfl) (hn : x ≠ "__name__" := by decide) (hdb : (x == ("__debug__" : Str)) = false := by decide) : SE X fa W (.Call (.Name x p) [a] [] pos) (tCB r (tCons ta tNil)) (e1 op ea) :=
  se_u (r := fun v H Q => r [v] H Q) (fun pe => pe_callB hc hg hm hv (pa_cons pe pa_nil hs) hn hdb hs rfl) (fun _ _ _ h => h) ho ha
theorem sf_t1 {ea : Env → Option D} (hc : CallR X (.type T) r) (ho : OpOk1 (cn X fa) (fun v H Q => r [v] H Q) op) (hv : bootBuiltins x = some (.type T)) (hm : X.mg x = none) (ha : SB X fa a ta ea)
    (hg : Gl X x := by rfl) (hs : starEach [a] X.env = (false, eval a X.env) :: starEach [] X.env := by rfl) (hn : x ≠ "__name__" := by decide) (hdb : (x == ("__debug__" : Str)) = false := by decide) : SF X fa (.Call (.Name x p) [a] [] pos) (tCB r (tCons ta tNil)) (b1 op ea) :=
  sf_u (r := fun v H Q => r [v] H Q) (fun pe => pe_callTy hc hg hm hv (pa_cons pe pa_nil hs) hn hdb hs rfl) (fun _ _ _ h => h) ho ha
theorem se_t1 {ea : Env → Res (D × Env)} (hc : CallR X (.type T) r) (ho : OpOk1 (cn X fa) (fun v H Q => r [v] H Q) op) (hv : bootBuiltins x = some (.type T)) (hm : X.mg x = none) (ha : SE X fa W a ta ea)
    (hg : Gl X x := by rfl) (hs : starEach [a] X.env = (false, eval a X.env) :: starEach [] X.env := by rfl) (hn : x ≠ "__name__" := by decide) (hdb : (x == ("__debug__" : Str)) = false := by decide) : SE X fa W (.Call (.Name x p) [a] [] pos) (tCB r (tCons ta tNil)) (e1 op ea) :=
  se_u (r := fun v H Q => r [v] H Q) (fun pe => pe_callTy hc hg hm hv (pa_cons pe pa_nil hs) hn hdb hs rfl) (fun _ _ _ h => h) ho ha
end
def oLen : D → Option D
  | .tup l => some (.int l.length)
  | .lst l => some (.int l.length)
  | .rol l => some (.int l.length)
  | .str x => if x.length ≤ LIM then some (.int x.length) else none
  | _ => none
abbrev rLen (K : PySem.W.Frag) : List V → Hp → VK → Prop := fun xs H Q => ∃ x n, xs = [x] ∧ LenV K x H n ∧ Q (.int n) H
theorem ok_len {c : Cn} : OpOk1 c (fun v H Q => rLen c.K [v] H Q) oLen := by
  intro x d z f H Q o1 h k
  have fin : ∀ n : Nat, z = .int n → Q (.int n) H := fun n e => by
    refine k _ H [] (Ext.refl H) ?_ fun _ z => by cases z
    rw [e]; exact own_mk_int
  cases d with
  | tup l =>
    cases h
    obtain ⟨a, xs, rfl, h1, h2⟩ := own_tup o1
    exact ⟨_, l.length, rfl, .inr ⟨xs, SqT.of h1, owns_len l xs f h2⟩, fin _ rfl⟩
  | lst l =>
    cases h
    obtain ⟨a, xs, g, rfl, h1, h2, _⟩ := own_lst o1
    exact ⟨_, l.length, rfl, .inl ⟨xs, SqL.of h1, owns_len l xs g h2⟩, fin _ rfl⟩
  | rol l =>
    cases h
    simp only [Own] at o1
    obtain ⟨⟨a, rfl, h1⟩, _⟩ := o1
    exact ⟨_, l.length, rfl, .inl ⟨_, h1.sq, by rw [List.length_map]⟩, fin _ rfl⟩
  | str y =>
    simp only [oLen] at h
    split at h
    · rename_i q
      cases h
      rw [own_str o1]
      exact ⟨_, y.length, rfl, ⟨Nat.le_trans q lim_line, rfl⟩, fin _ rfl⟩
    · cases h
  | _ => cases h
def oTuple : D → Option D
  | .tup l => some (.tup l)
  | .lst l => if pures l then some (.tup l) else none
  | _ => none
abbrev rTuple (K : PySem.W.Frag) : List V → Hp → VK → Prop := fun xs H Q => ∃ p ys, xs = [.ref p] ∧ ((SqL K H p ys ∧ ∀ l, H l = none → Q (.ref l) (upd H l (.tup ys))) ∨ (SqT K H p ys ∧ Q (.ref p) H))
theorem ok_tuple {c : Cn} : OpOk1 c (fun v H Q => rTuple c.K [v] H Q) (fun d => (oTuple d).bind fun z => if z.pure then some z else none) := by
  intro x d z f H Q o1 h k
  obtain ⟨z', e0, h⟩ := Option.bind_eq_some_iff.mp h
  split at h
  · rename_i pz
    cases h
    cases d with
    | tup l =>
      cases e0
      have e := own_pure _ _ _ pz o1
      subst e
      have o1' := o1
      obtain ⟨a, xs, rfl, h1, h2⟩ := own_tup o1
      exact ⟨a, xs, rfl, .inr ⟨SqT.of h1, k _ H [] (Ext.refl H) o1' fun _ z => by cases z⟩⟩
    | lst l =>
      simp only [oTuple] at e0
      split at e0
      · rename_i q
        cases e0
        obtain ⟨a, xs, g, rfl, h1, h2, _⟩ := own_lst o1
        exact ⟨a, xs, rfl, .inl ⟨SqL.of h1, fun p hp => k _ _ [] (Ext.new hp) (own_new_tup hp (owns_nil h2 q)) fun _ z => by cases z⟩⟩
      · cases e0
    | _ => cases e0
  · cases h
def oList : D → Option D
  | .tup l => if pures l then some (.lst l) else none
  | .lst l => if pures l then some (.lst l) else none
  | _ => none
abbrev rList (K : PySem.W.Frag) : List V → Hp → VK → Prop := fun xs H Q => ∃ p ys, xs = [.ref p] ∧ (SqL K H p ys ∨ SqT K H p ys) ∧ ∀ l, H l = none → Q (.ref l) (upd H l (.lst ys))
theorem ok_list {c : Cn} : OpOk1 c (fun v H Q => rList c.K [v] H Q) oList := by
  intro x d z f H Q o1 h k
  cases d with
  | tup l =>
    simp only [oList] at h
    split at h
    · rename_i q
      cases h
      obtain ⟨a, xs, rfl, h1, h2⟩ := own_tup o1
      refine ⟨a, xs, rfl, .inr (SqT.of h1), fun p hp => k _ _ [p] (Ext.new hp) (own_new_lst hp (owns_nil h2 q)) fun a ha => ?_⟩
      rw [List.mem_singleton] at ha
      rw [ha]; exact hp
    · cases h
  | lst l =>
    simp only [oList] at h
    split at h
    · rename_i q
      cases h
      obtain ⟨a, xs, g, rfl, h1, h2, _⟩ := own_lst o1
      refine ⟨a, xs, rfl, .inl (SqL.of h1), fun p hp => k _ _ [p] (Ext.new hp) (own_new_lst hp (owns_nil h2 q)) fun a ha => ?_⟩
      rw [List.mem_singleton] at ha
      rw [ha]; exact hp
    · cases h
  | _ => cases h
def oAbs : D → Option D
  | .int i => some (.int (if i < 0 then -i else i))
  | _ => none
theorem ok_abs {c : Cn} : OpOk1 c (fun v H Q => ∃ i, [v] = [.int i] ∧ Q (.int (if i < 0 then -i else i)) H) oAbs := by
  intro x d z f H Q o1 h k
  cases d with
  | int i => cases h; exact ⟨i, by rw [own_int o1], k _ H [] (Ext.refl H) own_mk_int fun _ z => by cases z⟩
  | _ => cases h
def oInt : D → Option D
  | .int i => some (.int i)
  | .bl b => some (.int (if b then 1 else 0))
  | _ => none
theorem ok_int {c : Cn} : OpOk1 c (fun v H Q => (∃ i, [v] = [V.int i] ∧ Q (.int i) H) ∨ ∃ k, [v] = [V.bl k] ∧ Q (.int (if k then 1 else 0)) H) oInt := by
  intro x d z f H Q o1 h k
  cases d with
  | int i => cases h; exact .inl ⟨i, by rw [own_int o1], k _ H [] (Ext.refl H) own_mk_int fun _ z => by cases z⟩
  | bl b => cases h; exact .inr ⟨b, by rw [own_bl o1], k _ H [] (Ext.refl H) own_mk_int fun _ z => by cases z⟩
  | _ => cases h
def blsOf : List D → Option (List Bool)
  | [] => some []
  | .bl b :: r => (blsOf r).map (b :: ·)
  | _ => none
theorem owns_bls {c : Cn} {H : Hp} : ∀ (l : List D) (xs : List V) (f : List Addr) (bs : List Bool), blsOf l = some bs → Owns c H l xs f → xs = bs.map V.bl
  | [], xs, f, bs, e, o => by simp only [Owns] at o; cases e; exact o.1
  | d :: r, xs, f, bs, e, o => by
    cases d with
    | bl b =>
      simp only [blsOf] at e
      obtain ⟨bs', e1, rfl⟩ := Option.map_eq_some_iff.mp e
      simp only [Owns] at o
      obtain ⟨x, ys, g, h', rfl, h1, h2, _⟩ := o
      rw [own_bl h1, owns_bls r ys h' bs' e1 h2]; rfl
    | _ => cases e
def oAny : D → Option D
  | .lst l => (blsOf l).map fun bs => .bl (bs.any id)
  | _ => none
def oAll : D → Option D
  | .lst l => (blsOf l).map fun bs => .bl (bs.all id)
  | _ => none
theorem ok_any {c : Cn} : OpOk1 c (fun v H Q => rAny c.K [v] H Q) oAny := by
  intro x d z f H Q o1 h k
  cases d with
  | lst l =>
    simp only [oAny] at h
    obtain ⟨bs, e1, rfl⟩ := Option.map_eq_some_iff.mp h
    obtain ⟨a, xs, g, rfl, h1, h2, _⟩ := own_lst o1
    refine ⟨a, bs, rfl, SqL.of ?_, k _ H [] (Ext.refl H) own_mk_bl fun _ z => by cases z⟩
    rw [← owns_bls l xs g bs e1 h2]; exact h1
  | _ => cases h
theorem ok_all {c : Cn} : OpOk1 c (fun v H Q => rAll c.K [v] H Q) oAll := by
  intro x d z f H Q o1 h k
  cases d with
  | lst l =>
    simp only [oAll] at h
    obtain ⟨bs, e1, rfl⟩ := Option.map_eq_some_iff.mp h
    obtain ⟨a, xs, g, rfl, h1, h2, _⟩ := own_lst o1
    refine ⟨a, bs, rfl, SqL.of ?_, k _ H [] (Ext.refl H) own_mk_bl fun _ z => by cases z⟩
    rw [← owns_bls l xs g bs e1 h2]; exact h1
  | _ => cases h

/-! ### slices -/
structure SPo (X : Cx) (fa : Nat → Addr) (e : Option Expr) (t : TO) (ev : Env → Option (Option Int)) : Prop where
  po : PO X e t
  ok : ∀ (E : Env) (o : Option Int), ev E = some o → ∀ (σ : St) (H : Hp) (F : Nat → List Addr) (Q : Option Int → Hp → Prop), Sims (cn X fa) H E σ F → (∀ H', Ext H H' → Q o H') → t σ H Q
theorem spo_none : SPo X fa none tNoPart (fun _ => some none) := ⟨po_none, fun E o g σ H F Q s k => by cases g; exact k H (Ext.refl H)⟩
def oPart (ea : Env → Option D) : Env → Option (Option Int) := fun E => match ea E with
  | some (.int i) => some (some i)
  | _ => none
theorem spo_some {e : Expr} {te : TE} {ea : Env → Option D} (h : SB X fa e te ea) : SPo X fa (some e) (tPart te) (oPart ea) := ⟨po_some h.pe, fun E o g σ H F Q s k => by
  unfold oPart at g
  split at g
  · rename_i i e1
    cases g
    exact h.ok E _ e1 σ H F _ s fun v H1 f x1 o1 n1 => ⟨i, own_int o1, k H1 x1⟩
  · cases g⟩
def cutD (xs : List D) (lo hi : Option Int) : List D := (xs.drop (HT.sIx xs.length 0 lo)).take (HT.sIx xs.length xs.length hi - HT.sIx xs.length 0 lo)
def oSl (d : D) (lo hi : Option Int) : Option D := match d with
  | .tup l => if pures l then some (.tup (cutD l lo hi)) else none
  | .lst l => if pures l then some (.lst (cutD l lo hi)) else none
  | _ => none
theorem owns_cut {c : Cn} {H : Hp} {l : List D} {xs : List V} (o : Owns c H l xs []) (p : pures l = true) (lo hi : Option Int) : Owns c H (cutD l lo hi) (cutV xs lo hi) [] := by
  have hl := owns_len l xs [] o
  have ha := owns_all o p
  unfold cutD cutV
  rw [← hl]
  refine owns_of_all _ _ (by simp [hl]) fun i d x h1 h2 => ?_
  rw [List.getElem?_take] at h1 h2
  split at h1
  · rename_i q
    rw [if_pos q] at h2
    rw [List.getElem?_drop] at h1 h2
    exact ha _ d x h1 h2
  · cases h1
abbrev rSl (K : PySem.W.Frag) : V → Option Int → Option Int → Hp → VK → Prop := fun x lo hi H Q => rSlL K x lo hi H Q ∨ rSlA K x lo hi H Q
def fSl (ea : Env → Option D) (el eh : Env → Option (Option Int)) : Env → Option D := fun E => (ea E).bind fun d => (el E).bind fun l => (eh E).bind fun h => oSl d l h
theorem cut_whole {xs : List V} {lo hi : Option Int} (h : HT.sIx xs.length 0 lo = 0 ∧ HT.sIx xs.length xs.length hi = xs.length) : cutV xs lo hi = xs := by
  unfold cutV
  rw [h.1, h.2]
  simp
theorem sf_sl {e : Expr} {te : TE} {lo hi : Option Expr} {tl th : TO} {ea : Env → Option D} {el eh : Env → Option (Option Int)} {pos p2 : Pos} (he : SB X fa e te ea) (hl : SPo X fa lo tl el) (hh : SPo X fa hi th eh) : SF X fa (.Subscript e (.Slice lo hi none p2) pos) (tSl (rSl X.K) te tl th) (fSl ea el eh) :=
  ⟨pe_slice (sl_list.or sl_tupA) he.pe hl.po hh.po, fun E d g σ H F Q s k => by
    obtain ⟨d0, e1, g⟩ := Option.bind_eq_some_iff.mp g
    obtain ⟨l, e2, g⟩ := Option.bind_eq_some_iff.mp g
    obtain ⟨h, e3, g⟩ := Option.bind_eq_some_iff.mp g
    refine he.ok E d0 e1 σ H F _ s fun v H1 f x1 o1 n1 => ?_
    refine hl.ok E l e2 σ H1 F _ (x1.sims s) fun H2 x2 => ?_
    refine hh.ok E h e3 σ H2 F _ ((x1.trans x2).sims s) fun H3 x3 => ?_
    have o3 := (x2.trans x3).own o1
    have xx := (x1.trans x2).trans x3
    cases d0 with
    | tup m =>
      simp only [oSl] at g
      split at g
      · rename_i pm
        cases g
        obtain ⟨a, xs, rfl, h1, h2⟩ := own_tup o3
        have h2 := owns_nil h2 pm
        refine .inr ⟨a, xs, rfl, SqT.of h1, fun w => ?_, fun w p hp => ?_⟩
        · refine k _ H3 [] xx (own_mk_tup h1 ?_) fun _ z => by cases z
          have := owns_cut h2 pm l h
          rw [cut_whole w] at this
          exact this
        · exact k _ _ [] (xx.trans (Ext.new hp)) (own_new_tup hp (owns_cut h2 pm l h)) fun _ z => by cases z
      · cases g
    | lst m =>
      simp only [oSl] at g
      split at g
      · rename_i pm
        cases g
        obtain ⟨a, xs, g', rfl, h1, h2, _⟩ := own_lst o3
        have h2 := owns_nil h2 pm
        refine .inl ⟨a, xs, rfl, SqL.of h1, fun p hp => ?_⟩
        refine k _ _ [p] (xx.trans (Ext.new hp)) (own_new_lst hp (owns_cut h2 pm l h)) fun a ha => ?_
        rw [List.mem_singleton] at ha
        rw [ha]; exact xx.back hp
      · cases g
    | _ => cases g⟩

/-! ### a if t else b; and, or, not -/
def fIf (ec : Env → Option Bool) (ea eb : Env → Option D) : Env → Option D := fun E => (ec E).bind fun b => if b then ea E else eb E
def eIf (ec : Env → Res (Bool × Env)) (ea eb : Env → Res (D × Env)) : Env → Res (D × Env) := fun E => (ec E).bind fun p => if p.1 then ea p.2 else eb p.2
section
variable {e a b : Expr} {tc : TT} {ta tb : TE} {pos : Pos}
theorem sf_if {ec : Env → Option Bool} {ea eb : Env → Option D} (hc : SP0 X fa e tc ec) (ha : SF X fa a ta ea) (hb : SF X fa b tb eb) : SF X fa (.IfExp e a b pos) (tIf tc ta tb) (fIf ec ea eb) :=
  ⟨pe_ifExp hc.pt ha.pe hb.pe, fun E d g σ H F Q s k => by
    obtain ⟨q, e1, g⟩ := Option.bind_eq_some_iff.mp g
    refine hc.ok E q e1 σ H F _ s fun H1 x1 => ?_
    cases q with
    | true => exact ha.ok E d g σ H1 F Q (x1.sims s) fun v H2 f x2 o n => k v H2 f (x1.trans x2) o fun a ha => x1.back (n a ha)
    | false => exact hb.ok E d g σ H1 F Q (x1.sims s) fun v H2 f x2 o n => k v H2 f (x1.trans x2) o fun a ha => x1.back (n a ha)⟩
theorem se_if {ec : Env → Res (Bool × Env)} {ea eb : Env → Res (D × Env)} (hc : SPE X fa W e tc ec) (ha : SE X fa W a ta ea) (hb : SE X fa W b tb eb) : SE X fa W (.IfExp e a b pos) (tIf tc ta tb) (eIf ec ea eb) :=
  ⟨pe_ifExp hc.pt ha.pe hb.pe, fun E σ H F Q s r => by
    refine hc.ok E σ H F _ s (r.bind.mono (fun p r H1 F1 s1 => ?_) fun _ _ z => z)
    have fin : ∀ (q : D × Env), (∀ v H' F' f, Stp (cn X fa) H E F q.2 σ H' F' → Got (cn X fa) H E F q.2 F' H' q.1 v f → Q v H') → ∀ v H' F' f, Stp (cn X fa) H1 p.2 F1 q.2 σ H' F' → Got (cn X fa) H1 p.2 F1 q.2 F' H' q.1 v f → Q v H' :=
      fun q r v H' F' f s2 g2 => r v H' F' f (s1.trans s2) (g2.first s1)
    cases h : p.1 with
    | true =>
      rw [h] at r
      exact ha.ok p.2 σ H1 F1 Q s1.sim (r.mono fin fun _ _ z => z.first s1)
    | false =>
      rw [h] at r
      exact hb.ok p.2 σ H1 F1 Q s1.sim (r.mono fin fun _ _ z => z.first s1)⟩
/-- tests by values -/
def pB (ea : Env → Option D) : Env → Option Bool := fun E => match ea E with
  | some (.bl b) => some b
  | _ => none
theorem sp_val {te : TE} {ea : Env → Option D} (h : SB X fa e te ea) (hp : PE X e te → PT X e (tB te)) : SP0 X fa e (tB te) (pB ea) := ⟨hp h.pe, fun E b g σ H F Q s k => by
  unfold pB at g
  split at g
  · rename_i b' e1
    cases g
    exact h.ok E _ e1 σ H F _ s fun v H1 f x1 o1 n1 => ⟨b, own_bl o1, k H1 x1⟩
  · cases g⟩
def pE (ea : Env → Res (D × Env)) : Env → Res (Bool × Env) := fun E => (ea E).bind fun p => match p.1 with
  | .bl b => .ok (b, p.2)
  | _ => .no
theorem spe_val {te : TE} {ea : Env → Res (D × Env)} (h : SE X fa W e te ea) (hp : PE X e te → PT X e (tB te)) : SPE X fa W e (tB te) (pE ea) := ⟨hp h.pe, fun E σ H F Q s r => by
  refine h.ok E σ H F _ s (r.bind.mono (fun p r v H1 F1 f s1 g1 => ?_) fun _ _ z => z)
  split at r
  · rename_i b e1
    have o := g1.own
    rw [e1] at o
    exact ⟨b, own_bl o, r H1 F1 s1⟩
  · exact r.elim⟩
def pT (ec : Env → Option Bool) : Env → Res (Bool × Env) := fun E => Res.of ((ec E).map fun b => (b, E))
theorem SP0.toE {ec : Env → Option Bool} (h : SP0 X fa e tc ec) : SPE X fa W e tc (pT ec) := ⟨h.pt, fun E σ H F Q s r => by
  obtain ⟨p, e1, r⟩ := r.of
  obtain ⟨b, e2, rfl⟩ := Option.map_eq_some_iff.mp e1
  exact h.ok E b e2 σ H F Q s fun H' x => r H' F (Stp.ext s x)⟩
/-- comparisons as tests -/
theorem sp_cmp {op : CmpOp} {r : R2} {ea eb : Env → Option D} {o : D → D → Option D} (hr : OpR X (compareOp op) r) (ho : OpOk (cn X fa) r o) (ha : SB X fa a ta ea) (hb : SB X fa b tb eb) (hm : behindInMarks op b = false) : SP0 X fa (.Compare a [op] [b] pos) (tTest (tOp r ta tb)) (pB (b2 o ea eb)) :=
  ⟨pt_cmpR hr ha.pe hb.pe hm, fun E q g σ H F Q s k => by
    unfold pB at g
    split at g
    · rename_i b' e1
      cases g
      exact (sf_op (e := .Compare a [op] [b] pos) (fun p q => pe_cmpR hr p q hm) ho ha hb).ok E _ e1 σ H F _ s fun v H1 f x1 o1 n1 => ⟨q, own_bl o1, k H1 x1⟩
    · cases g⟩
theorem spe_cmp {op : CmpOp} {r : R2} {ea eb : Env → Res (D × Env)} {o : D → D → Option D} (hr : OpR X (compareOp op) r) (ho : OpOk (cn X fa) r o) (ha : SE X fa W a ta ea) (hb : SE X fa W b tb eb) (hm : behindInMarks op b = false) : SPE X fa W (.Compare a [op] [b] pos) (tTest (tOp r ta tb)) (pE (e2 o ea eb)) :=
  ⟨pt_cmpR hr ha.pe hb.pe hm, fun E σ H F Q s r => by
    refine (se_op (e := .Compare a [op] [b] pos) (fun p q => pe_cmpR hr p q hm) ho ha hb).ok E σ H F _ s (r.bind.mono (fun p r v H1 F1 f s1 g1 => ?_) fun _ _ z => z)
    split at r
    · rename_i b e1
      have o := g1.own
      rw [e1] at o
      exact ⟨b, own_bl o, r H1 F1 s1⟩
    · exact r.elim⟩
def pNot (ec : Env → Option Bool) : Env → Option Bool := fun E => (ec E).map fun b => !b
theorem sp_not {ec : Env → Option Bool} (h : SP0 X fa e tc ec) : SP0 X fa (.UnaryOp .Not e pos) (tNot tc) (pNot ec) := ⟨pt_not h.pt, fun E b g σ H F Q s k => by
  obtain ⟨q, e1, rfl⟩ := Option.map_eq_some_iff.mp g
  exact h.ok E q e1 σ H F _ s fun H' x => k H' x⟩
def pNotE (ec : Env → Res (Bool × Env)) : Env → Res (Bool × Env) := fun E => (ec E).bind fun p => .ok (!p.1, p.2)
theorem spe_not {ec : Env → Res (Bool × Env)} (h : SPE X fa W e tc ec) : SPE X fa W (.UnaryOp .Not e pos) (tNot tc) (pNotE ec) := ⟨pt_not h.pt, fun E σ H F Q s r =>
  h.ok E σ H F _ s (r.bind.mono (fun p r H1 F1 s1 => r H1 F1 s1) fun _ _ z => z)⟩
end
end
end VS

set_option maxRecDepth 100000
set_option maxHeartbeats 4000000
namespace VS
open PySem L2

/-! ### and, or -/
structure SPW (X : Cx) (fa : Nat → Addr) (W : WX) (e : Expr) (t : TT) (ev : Env → Res (Bool × Env)) : Prop where
  pw : PW X e t
  ok : ∀ (E : Env) (σ : St) (H : Hp) (F : Nat → List Addr) (Q : Bool → Hp → Prop), Sims (cn X fa) H E σ F →
    RP (ev E) (fun p => ∀ H' F', Stp (cn X fa) H E F p.2 σ H' F' → Q p.1 H') (PXof (cn X fa) W H E F σ) → t σ H Q
section
variable {X : Cx} {fa : Nat → Addr} {W : WX} {a b : Expr} {rest : List Expr} {ta tb : TT} {pos : Pos} {ea eb : Env → Res (Bool × Env)}
theorem SPW.p (h : SPW X fa W a ta ea) : SPE X fa W a ta ea := ⟨h.pw.pt, h.ok⟩
theorem spw_and1 (h : SPE X fa W a ta ea) : SPW X fa W (.BoolOp .And [a] pos) ta ea := ⟨pw_and1 h.pt, h.ok⟩
theorem spw_or1 (h : SPE X fa W a ta ea) : SPW X fa W (.BoolOp .Or [a] pos) ta ea := ⟨pw_or1 h.pt, h.ok⟩
def pAnd (ea eb : Env → Res (Bool × Env)) : Env → Res (Bool × Env) := fun E => (ea E).bind fun p => if p.1 then eb p.2 else .ok (false, p.2)
def pOr (ea eb : Env → Res (Bool × Env)) : Env → Res (Bool × Env) := fun E => (ea E).bind fun p => if p.1 then .ok (true, p.2) else eb p.2
theorem spw_and (ha : SPE X fa W a ta ea) (hb : SPW X fa W (.BoolOp .And (b :: rest) pos) tb eb) : SPW X fa W (.BoolOp .And (a :: b :: rest) pos) (tAnd ta tb) (pAnd ea eb) :=
  ⟨pw_and ha.pt hb.pw, fun E σ H F Q s r => by
    refine ha.ok E σ H F _ s (r.bind.mono (fun p r H1 F1 s1 => ?_) fun _ _ z => z)
    cases h : p.1 with
    | true =>
      rw [h] at r
      exact hb.ok p.2 σ H1 F1 Q s1.sim (r.mono (fun q r H2 F2 s2 => r H2 F2 (s1.trans s2)) fun _ _ z => z.first s1)
    | false =>
      rw [h] at r
      exact r H1 F1 s1⟩
theorem spw_or (ha : SPE X fa W a ta ea) (hb : SPW X fa W (.BoolOp .Or (b :: rest) pos) tb eb) : SPW X fa W (.BoolOp .Or (a :: b :: rest) pos) (tOr ta tb) (pOr ea eb) :=
  ⟨pw_or ha.pt hb.pw, fun E σ H F Q s r => by
    refine ha.ok E σ H F _ s (r.bind.mono (fun p r H1 F1 s1 => ?_) fun _ _ z => z)
    cases h : p.1 with
    | true =>
      rw [h] at r
      exact r H1 F1 s1
    | false =>
      rw [h] at r
      exact hb.ok p.2 σ H1 F1 Q s1.sim (r.mono (fun q r H2 F2 s2 => r H2 F2 (s1.trans s2)) fun _ _ z => z.first s1)⟩
end
section
variable {X : Cx} {fa : Nat → Addr} {W : WX} {a b : Expr} {rest : List Expr} {ta tb : TE} {pos : Pos}
/-- as values, bools at the left -/
def fAnd (ea eb : Env → Option D) : Env → Option D := fun E => match ea E with
  | some (.bl b) => if b then eb E else some (.bl false)
  | _ => none
def fOr (ea eb : Env → Option D) : Env → Option D := fun E => match ea E with
  | some (.bl b) => if b then some (.bl true) else eb E
  | _ => none
theorem sf_one {op} {ea : Env → Option D} (h : SF X fa a ta ea) : SF X fa (.BoolOp op [a] pos) ta ea := ⟨pe_one h.pe, h.ok⟩
theorem sf_and {ea eb : Env → Option D} (ha : SF X fa a ta ea) (hb : SF X fa (.BoolOp .And (b :: rest) pos) tb eb) : SF X fa (.BoolOp .And (a :: b :: rest) pos) (tAndV ta tb) (fAnd ea eb) :=
  ⟨pe_and ha.pe hb.pe, fun E d g σ H F Q s k => by
    unfold fAnd at g
    split at g
    · rename_i q e1
      refine ha.ok E _ e1 σ H F _ s fun v H1 f x1 o1 n1 => ⟨q, own_bl o1, ?_⟩
      cases q with
      | true => exact hb.ok E d g σ H1 F Q (x1.sims s) fun v H2 f x2 o n => k v H2 f (x1.trans x2) o fun a ha => x1.back (n a ha)
      | false =>
        cases g
        exact k _ H1 [] x1 own_mk_bl fun _ z => by cases z
    · cases g⟩
theorem sf_or {ea eb : Env → Option D} (ha : SF X fa a ta ea) (hb : SF X fa (.BoolOp .Or (b :: rest) pos) tb eb) : SF X fa (.BoolOp .Or (a :: b :: rest) pos) (tOrV ta tb) (fOr ea eb) :=
  ⟨pe_or ha.pe hb.pe, fun E d g σ H F Q s k => by
    unfold fOr at g
    split at g
    · rename_i q e1
      refine ha.ok E _ e1 σ H F _ s fun v H1 f x1 o1 n1 => ⟨q, own_bl o1, ?_⟩
      cases q with
      | false => exact hb.ok E d g σ H1 F Q (x1.sims s) fun v H2 f x2 o n => k v H2 f (x1.trans x2) o fun a ha => x1.back (n a ha)
      | true =>
        cases g
        exact k _ H1 [] x1 own_mk_bl fun _ z => by cases z
    · cases g⟩
def eAnd (ea eb : Env → Res (D × Env)) : Env → Res (D × Env) := fun E => (ea E).bind fun p => match p.1 with
  | .bl b => if b then eb p.2 else .ok (.bl false, p.2)
  | _ => .no
def eOr (ea eb : Env → Res (D × Env)) : Env → Res (D × Env) := fun E => (ea E).bind fun p => match p.1 with
  | .bl b => if b then .ok (.bl true, p.2) else eb p.2
  | _ => .no
theorem se_one {op} {ea : Env → Res (D × Env)} (h : SE X fa W a ta ea) : SE X fa W (.BoolOp op [a] pos) ta ea := ⟨pe_one h.pe, h.ok⟩
theorem se_and {ea eb : Env → Res (D × Env)} (ha : SE X fa W a ta ea) (hb : SE X fa W (.BoolOp .And (b :: rest) pos) tb eb) : SE X fa W (.BoolOp .And (a :: b :: rest) pos) (tAndV ta tb) (eAnd ea eb) :=
  ⟨pe_and ha.pe hb.pe, fun E σ H F Q s r => by
    refine ha.ok E σ H F _ s (r.bind.mono (fun p r v H1 F1 f s1 g1 => ?_) fun _ _ z => z)
    split at r
    · rename_i q e1
      have o := g1.own
      rw [e1] at o
      refine ⟨q, own_bl o, ?_⟩
      cases q with
      | true => exact hb.ok p.2 σ H1 F1 Q s1.sim (r.mono (fun q r v H2 F2 f s2 g2 => r v H2 F2 f (s1.trans s2) (g2.first s1)) fun _ _ z => z.first s1)
      | false => exact r _ H1 F1 [] s1 ⟨own_mk_bl, fun _ z => (by cases z), fun _ z => (by cases z)⟩
    · exact r.elim⟩
theorem se_or {ea eb : Env → Res (D × Env)} (ha : SE X fa W a ta ea) (hb : SE X fa W (.BoolOp .Or (b :: rest) pos) tb eb) : SE X fa W (.BoolOp .Or (a :: b :: rest) pos) (tOrV ta tb) (eOr ea eb) :=
  ⟨pe_or ha.pe hb.pe, fun E σ H F Q s r => by
    refine ha.ok E σ H F _ s (r.bind.mono (fun p r v H1 F1 f s1 g1 => ?_) fun _ _ z => z)
    split at r
    · rename_i q e1
      have o := g1.own
      rw [e1] at o
      refine ⟨q, own_bl o, ?_⟩
      cases q with
      | false => exact hb.ok p.2 σ H1 F1 Q s1.sim (r.mono (fun q r v H2 F2 f s2 g2 => r v H2 F2 f (s1.trans s2) (g2.first s1)) fun _ _ z => z.first s1)
      | true => exact r _ H1 F1 [] s1 ⟨own_mk_bl, fun _ z => (by cases z), fun _ z => (by cases z)⟩
    · exact r.elim⟩
def fNot (ea : Env → Option D) : Env → Option D := fun E => match ea E with
  | some (.bl b) => some (.bl (!b))
  | _ => none
theorem sf_not {ea : Env → Option D} (ha : SF X fa a ta ea) : SF X fa (.UnaryOp .Not a pos) (tNotV ta) (fNot ea) :=
  ⟨pe_not ha.pe, fun E d g σ H F Q s k => by
    unfold fNot at g
    split at g
    · rename_i q e1
      cases g
      exact ha.ok E _ e1 σ H F _ s fun v H1 f x1 o1 n1 => ⟨q, own_bl o1, k _ H1 [] x1 own_mk_bl fun _ z => by cases z⟩
    · cases g⟩
end

/-! ### statements -/
inductive SR where
  | nx (E : Env) | rt (d : D) (E : Env) | bk (E : Env) | ct (E : Env) | exc (x : ExcV) (E : Env) | no
namespace SR
def bind (r : SR) (k : Env → SR) : SR := match r with
  | .nx E => k E
  | r => r
@[simp] theorem bind_nx {E : Env} {k : Env → SR} : (SR.nx E).bind k = k E := rfl
@[simp] theorem bind_rt {d : D} {E : Env} {k : Env → SR} : (SR.rt d E).bind k = .rt d E := rfl
@[simp] theorem bind_bk {E : Env} {k : Env → SR} : (SR.bk E).bind k = .bk E := rfl
@[simp] theorem bind_ct {E : Env} {k : Env → SR} : (SR.ct E).bind k = .ct E := rfl
@[simp] theorem bind_exc {x : ExcV} {E : Env} {k : Env → SR} : (SR.exc x E).bind k = .exc x E := rfl
@[simp] theorem bind_no {k : Env → SR} : SR.no.bind k = .no := rfl
end SR
/-- from an expression's end to a statement's -/
def Res.sr {α : Type} (r : Res α) (k : α → SR) : SR := match r with
  | .ok a => k a
  | .exc x E => .exc x E
  | .no => .no
@[simp] theorem Res.sr_ok {α : Type} {a : α} {k : α → SR} : (Res.ok a).sr k = k a := rfl
@[simp] theorem Res.sr_exc {α : Type} {x : ExcV} {E : Env} {k : α → SR} : (Res.exc x E).sr k = .exc x E := rfl
@[simp] theorem Res.sr_no {α : Type} {k : α → SR} : (Res.no : Res α).sr k = .no := rfl
abbrev Pin := Nat → Bool
def Pn (pin : Pin) (σ σ' : St) : Prop := σ'.length = σ.length ∧ ∀ i, pin i = true → σ'[i]? = σ[i]?
theorem Pn.refl {pin : Pin} {σ : St} : Pn pin σ σ := ⟨rfl, fun _ _ => rfl⟩
theorem Pn.trans {pin : Pin} {σ σ1 σ2 : St} (a : Pn pin σ σ1) (b : Pn pin σ1 σ2) : Pn pin σ σ2 := ⟨b.1.trans a.1, fun i h => (b.2 i h).trans (a.2 i h)⟩
def SRok (c : Cn) (W : WX) (pin : Pin) (H : Hp) (E : Env) (F : Nat → List Addr) (σ : St) (D : Ends) (r : SR) : Prop := match r with
  | .nx E' => ∀ σ' H' F', Stp c H E F E' σ' H' F' → Pn pin σ σ' → D.nx σ' H'
  | .bk E' => ∀ σ' H' F', Stp c H E F E' σ' H' F' → Pn pin σ σ' → D.bk σ' H'
  | .ct E' => ∀ σ' H' F', Stp c H E F E' σ' H' F' → Pn pin σ σ' → D.ct σ' H'
  | .rt d E' => ∀ v σ' H' F' f, Stp c H E F E' σ' H' F' → Pn pin σ σ' → Got c H E F E' F' H' d v f → D.rt v H'
  | .exc x E' => ∀ cls dd σ' H' F', Stp c H E F E' σ' H' F' → Pn pin σ σ' → XRel c H' x cls dd → (∀ a, dd = some a → ¬ Foot E' F' a ∧ (Foot E F a ∨ H a = none)) → W cls dd σ' H'
  | .no => False
theorem SRok.first {c : Cn} {W : WX} {pin : Pin} {H H1 : Hp} {E E1 : Env} {F F1 : Nat → List Addr} {σ σ1 : St} {D : Ends} {r : SR} (h : SRok c W pin H E F σ D r) (s : Stp c H E F E1 σ1 H1 F1) (p : Pn pin σ σ1) : SRok c W pin H1 E1 F1 σ1 D r := by
  cases r with
  | nx E' => exact fun σ' H' F' s' p' => h σ' H' F' (s.trans s') (p.trans p')
  | bk E' => exact fun σ' H' F' s' p' => h σ' H' F' (s.trans s') (p.trans p')
  | ct E' => exact fun σ' H' F' s' p' => h σ' H' F' (s.trans s') (p.trans p')
  | rt d E' => exact fun v σ' H' F' f s' p' g => h v σ' H' F' f (s.trans s') (p.trans p') (g.first s)
  | exc x E' => exact fun cls dd σ' H' F' s' p' r n => h cls dd σ' H' F' (s.trans s') (p.trans p') r fun a e => ⟨(n a e).1, by
      rcases (n a e).2 with q | q
      · exact s.ft a q
      · exact s.fr.back q⟩
  | no => exact h
structure SS (X : Cx) (fa : Nat → Addr) (W : WX) (pin : Pin) (st : Stmt) (t : TS) (ev : Env → SR) : Prop where
  ps : PS X st t
  ok : ∀ (E : Env) (σ : St) (H : Hp) (F : Nat → List Addr) (D : Ends), Sims (cn X fa) H E σ F → SRok (cn X fa) W pin H E F σ D (ev E) → t D σ H
structure SSs (X : Cx) (fa : Nat → Addr) (W : WX) (pin : Pin) (st : List Stmt) (t : TS) (ev : Env → SR) : Prop where
  ps : PSs X st t
  ok : ∀ (E : Env) (σ : St) (H : Hp) (F : Nat → List Addr) (D : Ends), Sims (cn X fa) H E σ F → SRok (cn X fa) W pin H E F σ D (ev E) → t D σ H
section
variable {X : Cx} {fa : Nat → Addr} {W : WX} {pin : Pin} {st : Stmt} {sts : List Stmt} {t u : TS} {pos : Pos}
theorem rp_sr {α : Type} {c : Cn} {H : Hp} {E : Env} {F : Nat → List Addr} {σ : St} {D : Ends} {r : Res α} {k : α → SR} (h : SRok c W pin H E F σ D (r.sr k)) : RP r (fun a => SRok c W pin H E F σ D (k a)) (PXof c W H E F σ) := by
  cases r with
  | ok a => exact h
  | exc x E' => exact fun cls dd H' F' s r n => h cls dd σ H' F' s Pn.refl r n
  | no => exact h
theorem srok_bind {c : Cn} {H : Hp} {E : Env} {F : Nat → List Addr} {σ : St} {D : Ends} {r : SR} {k : Env → SR} {u : St → Hp → Prop} (h : SRok c W pin H E F σ D (r.bind k))
    (hu : ∀ E1 σ1 H1 F1, Stp c H E F E1 σ1 H1 F1 → Pn pin σ σ1 → SRok c W pin H1 E1 F1 σ1 D (k E1) → u σ1 H1) : SRok c W pin H E F σ { D with nx := u } r := by
  cases r with
  | nx E' => exact fun σ' H' F' s p => hu E' σ' H' F' s p (h.first s p)
  | bk E' => exact h
  | ct E' => exact h
  | rt d E' => exact h
  | exc x E' => exact h
  | no => exact h
def sNil : Env → SR := fun E => .nx E
def sSeq (a b : Env → SR) : Env → SR := fun E => (a E).bind b
theorem ss_nil : SSs X fa W pin [] tNext sNil := ⟨pss_nil, fun E σ H F D s r => r σ H F (Stp.refl s) Pn.refl⟩
theorem ss_cons {a b : Env → SR} (ha : SS X fa W pin st t a) (hb : SSs X fa W pin sts u b) : SSs X fa W pin (st :: sts) (tSeq t u) (sSeq a b) :=
  ⟨pss_cons ha.ps hb.ps, fun E σ H F D s r => ha.ok E σ H F _ s (srok_bind r fun E1 σ1 H1 F1 s1 p1 r1 => hb.ok E1 σ1 H1 F1 D s1.sim r1)⟩
theorem ss_one {a : Env → SR} (ha : SS X fa W pin st t a) : SSs X fa W pin [st] t a := ⟨pss_one ha.ps, ha.ok⟩
theorem ss_pass : SS X fa W pin (.Pass pos) tNext sNil := ⟨ps_pass, fun E σ H F D s r => r σ H F (Stp.refl s) Pn.refl⟩
theorem ss_break : SS X fa W pin (.Break pos) tBreak (fun E => .bk E) := ⟨ps_break, fun E σ H F D s r => r σ H F (Stp.refl s) Pn.refl⟩
theorem ss_continue : SS X fa W pin (.Continue pos) tCont (fun E => .ct E) := ⟨ps_continue, fun E σ H F D s r => r σ H F (Stp.refl s) Pn.refl⟩
theorem ss_never : SS X fa W pin st tNever (fun _ => .no) := ⟨ps_never, fun E σ H F D s r => r⟩
theorem sss_never : SSs X fa W pin sts tNever (fun _ => .no) := ⟨pss_never, fun E σ H F D s r => r⟩
def sIf (ec : Env → Res (Bool × Env)) (a b : Env → SR) : Env → SR := fun E => (ec E).sr fun p => if p.1 then a p.2 else b p.2
theorem ss_if {c : Expr} {sa sb : List Stmt} {tc : TT} {ec : Env → Res (Bool × Env)} {a b : Env → SR} (hc : SPE X fa W c tc ec) (ha : SSs X fa W pin sa t a) (hb : SSs X fa W pin sb u b) : SS X fa W pin (.If c sa sb pos) (tIfS tc t u) (sIf ec a b) :=
  ⟨ps_if hc.pt ha.ps hb.ps, fun E σ H F D s r => by
    refine hc.ok E σ H F _ s ((rp_sr r).mono (fun p r H1 F1 s1 => ?_) fun _ _ z => z)
    cases h : p.1 with
    | true =>
      rw [h] at r
      exact ha.ok p.2 σ H1 F1 D s1.sim (r.first s1 Pn.refl)
    | false =>
      rw [h] at r
      exact hb.ok p.2 σ H1 F1 D s1.sim (r.first s1 Pn.refl)⟩
def sRet (ev : Env → Res (D × Env)) : Env → SR := fun E => (ev E).sr fun p => .rt p.1 p.2
theorem ss_ret {e : Expr} {te : TE} {ev : Env → Res (D × Env)} (h : SE X fa W e te ev) : SS X fa W pin (.Return (some e) pos) (tRet te) (sRet ev) :=
  ⟨ps_ret h.pe, fun E σ H F D s r => h.ok E σ H F _ s ((rp_sr r).mono (fun p r v H1 F1 f s1 g1 => r v σ H1 F1 f s1 Pn.refl g1) fun _ _ z => z)⟩
theorem ss_retN : SS X fa W pin (.Return none pos) tRetN (fun E => .rt .non E) :=
  ⟨ps_retN, fun E σ H F D s r => r _ σ H F [] (Stp.refl s) Pn.refl ⟨own_mk_non, fun _ z => (by cases z), fun _ z => (by cases z)⟩⟩
def sDrop (ev : Env → Res (D × Env)) : Env → SR := fun E => (ev E).sr fun p => .nx p.2
theorem ss_drop {e : Expr} {te : TE} {ev : Env → Res (D × Env)} (h : SE X fa W e te ev) (hs : swapsWith e none pos.line X.env = pure false := by rfl) : SS X fa W pin (.Expr e pos) (tDrop te) (sDrop ev) :=
  ⟨ps_expr h.pe hs, fun E σ H F D s r => h.ok E σ H F _ s ((rp_sr r).mono (fun p r v H1 F1 f s1 g1 => r σ H1 F1 s1 Pn.refl) fun _ _ z => z)⟩

/-! ### targets -/
theorem gv_set {E : Env} {i j : Nat} {d e : D} (h : gv (E.set i (some d)) j = some e) : (j = i ∧ e = d) ∨ (j ≠ i ∧ gv E j = some e) := by
  rw [gv_some] at h
  by_cases q : i = j
  · subst q
    by_cases l : i < E.length
    · rw [List.getElem?_set_self l] at h; cases h; exact .inl ⟨rfl, rfl⟩
    · rw [List.getElem?_eq_none (by simpa using l)] at h; cases h
  · rw [List.getElem?_set_ne q] at h
    exact .inr ⟨fun z => q z.symm, gv_some.mpr h⟩
theorem sims_put {c : Cn} {H : Hp} {E : Env} {σ : St} {F : Nat → List Addr} {i : Nat} {d : D} {v : V} {f : List Addr} (s : Sims c H E σ F) (o : Own c H d v f) (n : ∀ a ∈ f, ¬ Foot E F a) : Sims c H (E.set i (some d)) (σ.set i (some v)) (fun j => if j = i then f else F j) := by
  refine ⟨by rw [List.length_set, List.length_set]; exact s.len, fun j e g => ?_, fun j k e e' nk g g' a ha => ?_⟩
  · rcases gv_set g with ⟨rfl, rfl⟩ | ⟨q, g'⟩
    · have l := gv_lt g
      rw [List.length_set, s.len] at l
      exact ⟨v, by rw [List.getElem?_set_self l], by rw [if_pos rfl]; exact o⟩
    · obtain ⟨w, h1, h2⟩ := s.get j e g'
      exact ⟨w, by rw [List.getElem?_set_ne (fun z => q z.symm)]; exact h1, by rw [if_neg q]; exact h2⟩
  · rcases gv_set g with ⟨rfl, rfl⟩ | ⟨q, g1⟩
    · rcases gv_set g' with ⟨rfl, rfl⟩ | ⟨q', g2⟩
      · exact absurd rfl nk
      · rw [if_pos rfl] at ha
        rw [if_neg q']
        exact fun z => n a ha ⟨k, e', g2, z⟩
    · rw [if_neg q] at ha
      rcases gv_set g' with ⟨rfl, rfl⟩ | ⟨q', g2⟩
      · rw [if_pos rfl]
        exact fun z => n a z ⟨j, e, g1, ha⟩
      · rw [if_neg q']
        exact s.dj j k e e' nk g1 g2 a ha
theorem foot_put {E : Env} {F : Nat → List Addr} {i : Nat} {d : D} {f : List Addr} {a : Addr} (z : Foot (E.set i (some d)) (fun j => if j = i then f else F j) a) : Foot E F a ∨ a ∈ f := by
  obtain ⟨j, e, g, ha⟩ := z
  rcases gv_set g with ⟨rfl, rfl⟩ | ⟨q, g1⟩
  · have ha : a ∈ (if j = j then f else F j) := ha
    rw [if_pos rfl] at ha; exact .inr ha
  · have ha : a ∈ (if j = i then f else F j) := ha
    rw [if_neg q] at ha; exact .inl ⟨j, e, g1, ha⟩
theorem pn_set {pin : Pin} {σ : St} {i : Nat} {x : Option V} (h : pin i = false) : Pn pin σ (σ.set i x) := ⟨List.length_set, fun j hj => by
  rw [List.getElem?_set_ne (fun z => by rw [z] at h; rw [h] at hj; cases hj)]⟩
structure SG (X : Cx) (fa : Nat → Addr) (pin : Pin) (tg : Expr) (g : TG) (bd : D → Env → Option Env) : Prop where
  pg : PG X tg g
  ok : ∀ (E E' : Env) (d : D) (v : V) (f : List Addr) (σ : St) (H : Hp) (F : Nat → List Addr) (Q : St → Hp → Prop), bd d E = some E' → Sims (cn X fa) H E σ F → Own (cn X fa) H d v f → (∀ a ∈ f, ¬ Foot E F a) →
    (∀ σ' F', Sims (cn X fa) H E' σ' F' → (∀ a, Foot E' F' a → Foot E F a ∨ a ∈ f) → Pn pin σ σ' → Q σ' H) → g v σ H Q
structure SGs (X : Cx) (fa : Nat → Addr) (pin : Pin) (tgs : List Expr) (g : TGs) (bd : List D → Env → Option Env) : Prop where
  pg : PGs X tgs g
  ok : ∀ (E E' : Env) (ds : List D) (vs : List V) (f : List Addr) (σ : St) (H : Hp) (F : Nat → List Addr) (Q : St → Hp → Prop), bd ds E = some E' → Sims (cn X fa) H E σ F → Owns (cn X fa) H ds vs f → (∀ a ∈ f, ¬ Foot E F a) →
    (∀ σ' F', Sims (cn X fa) H E' σ' F' → (∀ a, Foot E' F' a → Foot E F a ∨ a ∈ f) → Pn pin σ σ' → Q σ' H) → g vs σ H Q
def bName (pin : Pin) (i : Nat) : D → Env → Option Env := fun d E => if pin i then none else some (E.set i (some d))
theorem sg_name {i : Nat} {x : Str} (hN : X.N.Nodup) (hi : X.N[i]? = some x := by rfl) (hx : Loc X.env.scope x := by first | exact Or.inl rfl | exact Or.inr rfl) (hf : X.fn x = true ∨ X.env.scope.names.lookup x = some .local := by first | exact .inl rfl | exact .inr rfl | assumption) : SG X fa pin (.Name x pos) (gName i) (bName pin i) :=
  ⟨pg_name hN hi hx hf, fun E E' d v f σ H F Q b s o n k => by
    unfold bName at b
    split at b
    · cases b
    · rename_i hp
      cases b
      exact k _ _ (sims_put s o n) (fun a z => foot_put z) (pn_set (by simpa using hp))⟩
def bNil : List D → Env → Option Env := fun ds E => match ds with
  | [] => some E
  | _ => none
def bCons (b : D → Env → Option Env) (bs : List D → Env → Option Env) : List D → Env → Option Env := fun ds E => match ds with
  | d :: r => (b d E).bind (bs r)
  | _ => none
theorem sgs_nil : SGs X fa pin [] gNil bNil := ⟨pgs_nil, fun E E' ds vs f σ H F Q b s o n k => by
  cases ds with
  | nil =>
    cases b
    simp only [Owns] at o
    exact ⟨o.1, k σ F s (fun a z => .inl z) Pn.refl⟩
  | cons d r => cases b⟩
theorem sgs_cons {e : Expr} {es : List Expr} {g : TG} {gs : TGs} {b : D → Env → Option Env} {bs : List D → Env → Option Env} (h1 : SG X fa pin e g b) (h2 : SGs X fa pin es gs bs)
    (hs : (assignEach (e :: es) X.env).map (·.2) = assign e X.env :: (assignEach es X.env).map (·.2) := by rfl) : SGs X fa pin (e :: es) (gCons g gs) (bCons b bs) :=
  ⟨pgs_cons h1.pg h2.pg hs, fun E E' ds vs f σ H F Q bb s o n k => by
    cases ds with
    | nil => cases bb
    | cons d r =>
      obtain ⟨E1, b1, b2⟩ := Option.bind_eq_some_iff.mp bb
      simp only [Owns] at o
      obtain ⟨x, ys, g1, g2, rfl, o1, o2, dj, rfl⟩ := o
      refine ⟨x, ys, rfl, h1.ok E E1 d x g1 σ H F _ b1 s o1 (fun a ha => n a (List.mem_append_left _ ha)) fun σ1 F1 s1 ft1 p1 => ?_⟩
      refine h2.ok E1 E' r ys g2 σ1 H F1 Q b2 s1 o2 (fun a ha z => ?_) fun σ2 F2 s2 ft2 p2 => k σ2 F2 s2 (fun a z => ?_) (p1.trans p2)
      · rcases ft1 a z with q | q
        · exact n a (List.mem_append_right _ ha) q
        · exact dj a q ha
      · rcases ft2 a z with q | q
        · rcases ft1 a q with q | q
          · exact .inl q
          · exact .inr (List.mem_append_left _ q)
        · exact .inr (List.mem_append_right _ q)⟩
def bTup (n : Nat) (bs : List D → Env → Option Env) : D → Env → Option Env := fun d E => match d with
  | .tup l => if l.length = n then bs l E else none
  | _ => none
theorem sg_tup {es : List Expr} {k : Nat} {g : TGs} {bs : List D → Env → Option Env} {n : Nat} (hc : X.calm = true) (h : SGs X fa pin es g bs) (hn : (assignEach es X.env).length = n := by rfl) (hst : (assignEach es X.env).findIdx? (·.1) = none := by rfl) : SG X fa pin (.Tuple es k pos) (gTup X.K n g) (bTup n bs) :=
  ⟨pg_tup hc h.pg hn hst, fun E E' d v f σ H F Q b s o nf kk => by
    cases d with
    | tup l =>
      simp only [bTup] at b
      split at b
      · rename_i hl
        obtain ⟨a, xs, rfl, h1, h2⟩ := own_tup o
        exact ⟨a, xs, rfl, SqT.of h1, by rw [← owns_len l xs f h2]; exact hl, h.ok E E' l xs f σ H F Q b s h2 nf kk⟩
      · cases b
    | _ => cases b⟩
/-- target = value -/
def sAsg (ev : Env → Res (D × Env)) (bd : D → Env → Option Env) : Env → SR := fun E => (ev E).sr fun p => match bd p.1 p.2 with
  | some E' => .nx E'
  | none => .no
theorem asg_ok {e : Expr} {te : TE} {ev : Env → Res (D × Env)} {tg : Expr} {g : TG} {bd : D → Env → Option Env} (h : SE X fa W e te ev) (hg : SG X fa pin tg g bd) : ∀ (E : Env) (σ : St) (H : Hp) (F : Nat → List Addr) (D : Ends), Sims (cn X fa) H E σ F → SRok (cn X fa) W pin H E F σ D (sAsg ev bd E) → tAsg te g D σ H :=
  fun E σ H F D s r => by
    refine h.ok E σ H F _ s ((rp_sr r).mono (fun p r v H1 F1 f s1 g1 => ?_) fun _ _ z => z)
    split at r
    · rename_i E' e1
      refine hg.ok p.2 E' p.1 v f σ H1 F1 _ e1 s1.sim g1.own g1.dj fun σ2 F2 s2 ft2 p2 => r σ2 H1 F2 ⟨s2, s1.fr, fun a z => ?_⟩ p2
      rcases ft2 a z with q | q
      · exact s1.ft a q
      · exact g1.new a q
    · exact r.elim
end
end VS

set_option maxRecDepth 100000
set_option maxHeartbeats 4000000
namespace VS
open PySem L2

/-! ### places: a part of a slot's thing -/
def kids : D → Option (List D)
  | .tup l => some l
  | .lst l => some l
  | _ => none
def atD : List Nat → D → Option D
  | [], d => some d
  | j :: js, d => (kids d).bind fun l => (l[j]?).bind (atD js)
def modD : List Nat → (D → D) → D → D
  | [], h, d => h d
  | j :: js, h, .lst l => .lst (l.modify j (modD js h))
  | j :: js, h, .tup l => .tup (l.modify j (modD js h))
  | _ :: _, _, d => d
theorem atD_snoc : ∀ (js : List Nat) (j : Nat) (d s : D), atD js d = some s → atD (js ++ [j]) d = (kids s).bind fun l => l[j]?
  | [], j, d, s, h => by
    cases h
    show (kids d).bind (fun l => (l[j]?).bind (atD [])) = _
    congr 1
    funext l
    cases l[j]? <;> rfl
  | i :: js, j, d, s, h => by
    have h : (kids d).bind (fun l => (l[i]?).bind (atD js)) = some s := h
    obtain ⟨l, e1, h⟩ := Option.bind_eq_some_iff.mp h
    obtain ⟨x, e2, h⟩ := Option.bind_eq_some_iff.mp h
    show (kids d).bind (fun l => (l[i]?).bind (atD (js ++ [j]))) = _
    rw [e1]
    show (l[i]?).bind (atD (js ++ [j])) = _
    rw [e2]
    exact atD_snoc js j x s h
theorem modify_congr {α : Type} {l : List α} {i : Nat} {f g : α → α} {x : α} (h : l[i]? = some x) (e : f x = g x) : l.modify i f = l.modify i g := by
  apply List.ext_getElem?
  intro k
  rw [List.getElem?_modify, List.getElem?_modify]
  by_cases q : i = k
  · subst q
    simp [h, e]
  · simp [q]
theorem modD_congr : ∀ (js : List Nat) (d s : D) (f g : D → D), atD js d = some s → f s = g s → modD js f d = modD js g d
  | [], d, s, f, g, h, e => by cases h; exact e
  | i :: js, d, s, f, g, h, e => by
    have h : (kids d).bind (fun l => (l[i]?).bind (atD js)) = some s := h
    obtain ⟨l, e1, h⟩ := Option.bind_eq_some_iff.mp h
    obtain ⟨x, e2, h3⟩ := Option.bind_eq_some_iff.mp h
    cases d with
    | tup m =>
      cases e1
      show D.tup _ = D.tup _
      rw [modify_congr e2 (modD_congr js x s f g h3 e)]
    | lst m =>
      cases e1
      show D.lst _ = D.lst _
      rw [modify_congr e2 (modD_congr js x s f g h3 e)]
    | _ => cases e1
theorem modD_snoc : ∀ (js : List Nat) (j : Nat) (f : D → D) (d : D), modD (js ++ [j]) f d = modD js (modD [j] f) d
  | [], j, f, d => rfl
  | i :: js, j, f, d => by
    cases d with
    | tup m =>
      show D.tup (m.modify i (modD (js ++ [j]) f)) = D.tup (m.modify i (modD js (modD [j] f)))
      congr 2
      funext x
      exact modD_snoc js j f x
    | lst m =>
      show D.lst (m.modify i (modD (js ++ [j]) f)) = D.lst (m.modify i (modD js (modD [j] f)))
      congr 2
      funext x
      exact modD_snoc js j f x
    | _ => rfl
structure Lens (c : Cn) (H : Hp) (d : D) (v : V) (f : List Addr) (js : List Nat) (ds : D) (w : V) (g : List Addr) : Prop where
  own : Own c H ds w g
  sub : ∀ a ∈ g, a ∈ f
  put : ∀ (H' : Hp) (ds' : D) (g' : List Addr), Own c H' ds' w g' → ImmK H H' → (∀ a ∈ f, a ∉ g → H' a = H a) → (∀ a ∈ g', a ∈ g ∨ a ∉ f) →
    ∃ f', Own c H' (modD js (fun _ => ds') d) v f' ∧ ∀ a ∈ f', a ∈ g' ∨ (a ∈ f ∧ a ∉ g)
section
variable {c : Cn} {H : Hp}
theorem lens_nil {d : D} {v : V} {f : List Addr} (o : Own c H d v f) : Lens c H d v f [] d v f := ⟨o, fun _ h => h, fun H' ds' g' o' _ _ _ => ⟨g', o', fun a ha => .inl ha⟩⟩
theorem owns_lens : ∀ (l : List D) (xs : List V) (g0 : List Addr) (j : Nat) (d1 : D), Owns c H l xs g0 → l[j]? = some d1 → ∃ x1 g1, xs[j]? = some x1 ∧ Own c H d1 x1 g1 ∧ (∀ a ∈ g1, a ∈ g0) ∧
    ∀ (H' : Hp) (d' : D) (g' : List Addr), Own c H' d' x1 g' → ImmK H H' → (∀ a ∈ g0, a ∉ g1 → H' a = H a) → (∀ a ∈ g', a ∈ g1 ∨ a ∉ g0) → ∃ g0', Owns c H' (l.set j d') xs g0' ∧ ∀ a ∈ g0', a ∈ g' ∨ (a ∈ g0 ∧ a ∉ g1)
  | [], xs, g0, j, d1, _, e => by simp at e
  | d :: r, xs, g0, 0, d1, o, e => by
    simp at e
    subst e
    simp only [Owns] at o
    obtain ⟨x, ys, g, h, rfl, o1, o2, dj, rfl⟩ := o
    refine ⟨x, g, rfl, o1, fun a ha => List.mem_append_left _ ha, fun H' d' g' o' im kp nw => ⟨g' ++ h, ?_, fun a ha => ?_⟩⟩
    · show Owns c H' (d' :: r) (x :: ys) _
      simp only [Owns]
      refine ⟨x, ys, g', h, rfl, o', owns_keep im r ys h o2 fun a ha => kp a (List.mem_append_right _ ha) fun z => dj a z ha, fun a ha z => ?_, rfl⟩
      rcases nw a ha with q | q
      · exact dj a q z
      · exact q (List.mem_append_right _ z)
    · rcases List.mem_append.mp ha with q | q
      · exact .inl q
      · exact .inr ⟨List.mem_append_right _ q, fun z => dj a z q⟩
  | d :: r, xs, g0, j + 1, d1, o, e => by
    simp only [Owns] at o
    obtain ⟨x, ys, g, h, rfl, o1, o2, dj, rfl⟩ := o
    obtain ⟨x1, g1, e1, o3, s3, k3⟩ := owns_lens r ys h j d1 o2 (by simpa using e)
    refine ⟨x1, g1, by simpa using e1, o3, fun a ha => List.mem_append_right _ (s3 a ha), fun H' d' g' o' im kp nw => ?_⟩
    obtain ⟨h', o4, k4⟩ := k3 H' d' g' o' im (fun a ha n => kp a (List.mem_append_right _ ha) n) fun a ha => by
      rcases nw a ha with q | q
      · exact .inl q
      · exact .inr fun z => q (List.mem_append_right _ z)
    refine ⟨g ++ h', ?_, fun a ha => ?_⟩
    · show Owns c H' (d :: r.set j d') (x :: ys) _
      simp only [Owns]
      refine ⟨x, ys, g, h', rfl, own_keep im d x g o1 fun a ha => kp a (List.mem_append_left _ ha) fun z => dj a ha (s3 a z), o4, fun a ha z => ?_, rfl⟩
      rcases k4 a z with q | q
      · rcases nw a q with q | q
        · exact dj a ha (s3 a q)
        · exact q (List.mem_append_left _ ha)
      · exact dj a ha q.1
    · rcases List.mem_append.mp ha with q | q
      · exact .inr ⟨List.mem_append_left _ q, fun z => dj a q (s3 a z)⟩
      · rcases k4 a q with q | q
        · exact .inl q
        · exact .inr ⟨List.mem_append_right _ q.1, q.2⟩
theorem modify_set {α : Type} {l : List α} {j : Nat} {x : α} : l.modify j (fun _ => x) = l.set j x := by
  apply List.ext_getElem?
  intro k
  rw [List.getElem?_modify, List.getElem?_set]
  by_cases q : j = k
  · subst q
    by_cases h : j < l.length
    · simp [h]
    · simp [h]
  · simp [q]
/-- one index further -/
theorem lens_ix {d : D} {v : V} {f : List Addr} {js : List Nat} {ds : D} {w : V} {g : List Addr} (L : Lens c H d v f js ds w g) (hat : atD js d = some ds) {l : List D} {j : Nat} {d1 : D} (hk : kids ds = some l) (hj : l[j]? = some d1) :
    ∃ a xs x1 g1, w = .ref a ∧ ((H a = some (.lst xs) ∧ ds = .lst l) ∨ (SqT c.K H a xs ∧ ds = .tup l)) ∧ xs.length = l.length ∧ xs[j]? = some x1 ∧ Lens c H d v f (js ++ [j]) d1 x1 g1 := by
  have o := L.own
  cases ds with
  | tup m =>
    cases hk
    obtain ⟨a, xs, rfl, h1, h2⟩ := own_tup o
    obtain ⟨x1, g1, e1, o1, s1, k1⟩ := owns_lens l xs g j d1 h2 hj
    refine ⟨a, xs, x1, g1, rfl, .inr ⟨SqT.of h1, rfl⟩, (owns_len l xs g h2).symm, e1, o1, fun b hb => L.sub b (s1 b hb), fun H' ds' g' o' im kp nw => ?_⟩
    obtain ⟨g0', o2, k2⟩ := k1 H' ds' g' o' im (fun b hb n => kp b (L.sub b hb) n) fun b hb => by
      rcases nw b hb with q | q
      · exact .inl q
      · exact .inr fun z => q (L.sub b z)
    obtain ⟨f', o3, k3⟩ := L.put H' (.tup (l.set j ds')) g0' (own_mk_tup (im _ _ h1 trivial) o2) im (fun b hb n => kp b hb fun z => n (s1 b z)) fun b hb => by
      rcases k2 b hb with q | q
      · rcases nw b q with q | q
        · exact .inl (s1 b q)
        · exact .inr q
      · exact .inl q.1
    refine ⟨f', ?_, fun b hb => ?_⟩
    · rw [modD_snoc, modD_congr js d (.tup l) _ (fun _ => .tup (l.set j ds')) hat (by
        show D.tup (l.modify j (fun _ => ds')) = _
        rw [modify_set])]
      exact o3
    · rcases k3 b hb with q | q
      · rcases k2 b q with q | q
        · exact .inl q
        · exact .inr ⟨L.sub b q.1, q.2⟩
      · exact .inr ⟨q.1, fun z => q.2 (s1 b z)⟩
  | lst m =>
    cases hk
    obtain ⟨a, xs, g0, rfl, h1, h2, na, rfl⟩ := own_lst o
    obtain ⟨x1, g1, e1, o1, s1, k1⟩ := owns_lens l xs g0 j d1 h2 hj
    have na1 : a ∉ g1 := fun z => na (s1 a z)
    refine ⟨a, xs, x1, g1, rfl, .inl ⟨h1, rfl⟩, (owns_len l xs g0 h2).symm, e1, o1, fun b hb => L.sub b (List.mem_cons_of_mem _ (s1 b hb)), fun H' ds' g' o' im kp nw => ?_⟩
    obtain ⟨g0', o2, k2⟩ := k1 H' ds' g' o' im (fun b hb n => kp b (L.sub b (List.mem_cons_of_mem _ hb)) n) fun b hb => by
      rcases nw b hb with q | q
      · exact .inl q
      · exact .inr fun z => q (L.sub b (List.mem_cons_of_mem _ z))
    have ha : H' a = some (.lst xs) := (kp a (L.sub a List.mem_cons_self) na1).trans h1
    have na' : a ∉ g0' := fun z => by
      rcases k2 a z with q | q
      · rcases nw a q with q | q
        · exact na1 q
        · exact q (L.sub a List.mem_cons_self)
      · exact na q.1
    obtain ⟨f', o3, k3⟩ := L.put H' (.lst (l.set j ds')) (a :: g0') (own_mk_lst ha o2 na') im (fun b hb n => kp b hb fun z => n (List.mem_cons_of_mem _ (s1 b z))) fun b hb => by
      rcases List.mem_cons.mp hb with rfl | hb
      · exact .inl List.mem_cons_self
      · rcases k2 b hb with q | q
        · rcases nw b q with q | q
          · exact .inl (List.mem_cons_of_mem _ (s1 b q))
          · exact .inr q
        · exact .inl (List.mem_cons_of_mem _ q.1)
    refine ⟨f', ?_, fun b hb => ?_⟩
    · rw [modD_snoc, modD_congr js d (.lst l) _ (fun _ => .lst (l.set j ds')) hat (by
        show D.lst (l.modify j (fun _ => ds')) = _
        rw [modify_set])]
      exact o3
    · rcases k3 b hb with q | q
      · rcases List.mem_cons.mp q with rfl | q
        · exact .inr ⟨L.sub b List.mem_cons_self, na1⟩
        · rcases k2 b q with q | q
          · exact .inl q
          · exact .inr ⟨L.sub b (List.mem_cons_of_mem _ q.1), q.2⟩
      · exact .inr ⟨q.1, fun z => q.2 (List.mem_cons_of_mem _ (s1 b z))⟩
  | _ => cases hk
end

/-- an expression that names a place in slot r -/
structure SL (X : Cx) (fa : Nat → Addr) (r : Nat) (e : Expr) (t : TE) (ev : Env → Option (List Nat)) : Prop where
  pe : PE X e t
  ok : ∀ (E : Env) (js : List Nat) (d ds : D), ev E = some js → gv E r = some d → atD js d = some ds → ∀ (σ : St) (H : Hp) (F : Nat → List Addr), Sims (cn X fa) H E σ F → ∀ v, σ[r]? = some (some v) → ∀ Q : VK,
    (∀ w H' g, Ext H H' → Lens (cn X fa) H' d v (F r) js ds w g → Q w H') → t σ H Q
section
variable {X : Cx} {fa : Nat → Addr} {W : WX} {pin : Pin} {pos : Pos}
theorem sims_own {c : Cn} {H : Hp} {E : Env} {σ : St} {F : Nat → List Addr} (s : Sims c H E σ F) {r : Nat} {d : D} {v : V} (g : gv E r = some d) (h : σ[r]? = some (some v)) : Own c H d v (F r) := by
  obtain ⟨w, h1, h2⟩ := s.get r d g
  rw [h] at h1
  cases h1
  exact h2
def lVar : Env → Option (List Nat) := fun _ => some []
theorem sl_var (r : Nat) {x : Str} (hN : X.N[r]? = some x := by rfl) (hv : Vis X.env.scope x := by first | exact Or.inl rfl | exact Or.inr (Or.inl rfl) | exact Or.inr (Or.inr rfl)) (hd : (x == ("__debug__" : Str)) = false := by decide)
    (hcd : (x == ("__classdict__" : Str)) = false := by decide) : SL X fa r (.Name x pos) (tVar r) lVar :=
  ⟨pe_var hN hv hd hcd, fun E js d ds e g hat σ H F s v hv' Q k => by
    cases e
    cases hat
    exact ⟨v, hv', k v H (F r) (Ext.refl H) (lens_nil (sims_own s g hv'))⟩⟩
def lIx (r : Nat) (ea : Env → Option (List Nat)) (eb : Env → Option D) : Env → Option (List Nat) := fun E => (ea E).bind fun js => (gv E r).bind fun d => (atD js d).bind fun s => (kids s).bind fun l => match eb E with
  | some (.int i) => (ixN l.length i).map fun j => js ++ [j]
  | _ => none
theorem sl_ix {r : Nat} {a b : Expr} {ta tb : TE} {ea : Env → Option (List Nat)} {eb : Env → Option D} (ha : SL X fa r a ta ea) (hb : SB X fa b tb eb) (hs : PlainIx b := by exact fun _ _ => rfl) : SL X fa r (.Subscript a b pos) (tOp (rIx X.K) ta tb) (lIx r ea eb) :=
  ⟨pe_ix ix_seq ha.pe hb.pe hs, fun E js d ds e g hat σ H F s v hv' Q k => by
    obtain ⟨js0, e1, e⟩ := Option.bind_eq_some_iff.mp e
    obtain ⟨d', g', e⟩ := Option.bind_eq_some_iff.mp e
    rw [g] at g'
    cases g'
    obtain ⟨s0, e2, e⟩ := Option.bind_eq_some_iff.mp e
    obtain ⟨l, e3, e⟩ := Option.bind_eq_some_iff.mp e
    split at e
    · rename_i i ei
      obtain ⟨j, ej, rfl⟩ := Option.map_eq_some_iff.mp e
      rw [atD_snoc js0 j d s0 e2, e3] at hat
      have hat : l[j]? = some ds := hat
      refine ha.ok E js0 d s0 e1 g e2 σ H F s v hv' _ fun w H1 g1 x1 L => ?_
      refine hb.ok E _ ei σ H1 F _ (x1.sims s) fun u H2 f2 x2 o2 n2 => ?_
      have L2 : Lens (cn X fa) H2 d v (F r) js0 s0 w g1 := ⟨x2.own L.own, L.sub, fun H' ds' g' o' im kp nw => L.put H' ds' g' o' (fun a o h i => im a o (x2 a o h) i) (fun a ha n => by
        obtain ⟨o, ho, _⟩ := own_at d v (F r) ((x1.sims s |> fun s1 => sims_own s1 g hv')) a ha
        rw [kp a ha n, ho, x2 a o ho]) nw⟩
      obtain ⟨a, xs, x1', g2, rfl, hq, hl, hx, L3⟩ := lens_ix L2 e2 e3 hat
      have hi : atI xs i = some x1' := atI_of (j := j) (by rw [hl]; exact ej) hx
      have fin : Q x1' H2 := k x1' H2 g2 (x1.trans x2) L3
      rcases hq with ⟨hq, _⟩ | ⟨hq, _⟩
      · exact .inl ⟨a, xs, i, x1', rfl, own_int o2, SqL.of hq, hi, fin⟩
      · exact .inr (.inl ⟨a, xs, i, x1', rfl, own_int o2, hq, hi, fin⟩)
    · cases e⟩
def bPl (r : Nat) (ev : Env → Option (List Nat)) : Env → Option D := fun E => (ev E).bind fun js => (gv E r).bind (atD js)
theorem SL.toB {r : Nat} {e : Expr} {t : TE} {ev : Env → Option (List Nat)} (h : SL X fa r e t ev) : SB X fa e t (bPl r ev) :=
  ⟨h.pe, fun E ds g σ H F Q s k => by
    obtain ⟨js, e1, g⟩ := Option.bind_eq_some_iff.mp g
    obtain ⟨d, g1, g⟩ := Option.bind_eq_some_iff.mp g
    obtain ⟨v, hv, o⟩ := s.get r d g1
    exact h.ok E js d ds e1 g1 g σ H F s v hv Q fun w H' g' x L => k w H' g' x L.own fun a ha => .inl ⟨r, d, g1, L.sub a ha⟩⟩

/-- the list at a place of slot r has become another one (its items of its own, or fn's) -/
theorem mut_lst {c : Cn} {H : Hp} {E : Env} {σ : St} {F : Nat → List Addr} {r : Nat} {d : D} {v : V} {js : List Nat} {l l' : List D} {a : Addr} {xs xs' : List V} {g0 g0' fn : List Addr} (s : Sims c H E σ F) (g : gv E r = some d) (hv : σ[r]? = some (some v))
    (L : Lens c H d v (F r) js (.lst l) (.ref a) (a :: g0)) (ha : H a = some (.lst xs)) (o : Owns c H l' xs' g0') (na : a ∉ g0') (sub : ∀ b ∈ g0', b ∈ g0 ∨ b ∈ fn) (hfn : ∀ b ∈ fn, ¬ Foot E F b) :
    ∃ F', Sims c (upd H a (.lst xs')) (E.set r (some (modD js (fun _ => .lst l') d))) σ F' ∧ Fr (Foot E F) H (upd H a (.lst xs')) ∧ ∀ b, Foot (E.set r (some (modD js (fun _ => .lst l') d))) F' b → Foot E F b ∨ b ∈ fn := by
  have far : Foot E F a := ⟨r, d, g, L.sub a List.mem_cons_self⟩
  have fr : Fr (Foot E F) H (upd H a (.lst xs')) := fun b o e k => by
    by_cases q : b = a
    · subst q
      rw [ha] at e
      cases e
      rcases k with k | k
      · exact absurd far k
      · exact k.elim
    · rw [upd_ne q]; exact e
  have o' : Own c (upd H a (.lst xs')) (.lst l') (.ref a) (a :: g0') := own_mk_lst upd_same (owns_keep fr.imm l' xs' g0' o fun b hb => upd_ne fun z => na (z ▸ hb)) na
  obtain ⟨f', o1, k1⟩ := L.put _ (.lst l') (a :: g0') o' fr.imm (fun b hb n => upd_ne fun z => n (z ▸ List.mem_cons_self)) fun b hb => by
    rcases List.mem_cons.mp hb with rfl | hb
    · exact .inl List.mem_cons_self
    · rcases sub b hb with q | q
      · exact .inl (List.mem_cons_of_mem _ q)
      · exact .inr fun z => hfn b q ⟨r, d, g, z⟩
  have kf : ∀ b ∈ f', b ∈ F r ∨ b ∈ fn := fun b hb => by
    rcases k1 b hb with q | q
    · rcases List.mem_cons.mp q with rfl | q
      · exact .inl (L.sub b List.mem_cons_self)
      · rcases sub b q with q | q
        · exact .inl (L.sub b (List.mem_cons_of_mem _ q))
        · exact .inr q
    · exact .inl q.1
  have s1 := sims_drop s r
  have s2 : Sims c (upd H a (.lst xs')) (E.set r none) σ F := ⟨s1.len, fun i e g1 => by
    obtain ⟨w, h1, h2⟩ := s1.get i e g1
    refine ⟨w, h1, own_keep fr.imm e w (F i) h2 fun b hb => upd_ne fun z => ?_⟩
    subst z
    exact foot_dropped s g (L.sub b List.mem_cons_self) ⟨i, e, g1, hb⟩, s1.dj⟩
  have s3 := sims_put (i := r) s2 o1 fun b hb z => by
    rcases kf b hb with q | q
    · exact foot_dropped s g q z
    · exact hfn b q (foot_drop z)
  have eσ : σ.set r (some v) = σ := by
    apply List.ext_getElem?
    intro k
    rw [List.getElem?_set]
    split
    · rename_i q
      subst q
      split
      · exact hv.symm
      · rename_i q
        rw [List.getElem?_eq_none (by omega)]
    · rfl
  have eE : (E.set r none).set r (some (modD js (fun _ => .lst l') d)) = E.set r (some (modD js (fun _ => .lst l') d)) := List.set_set ..
  rw [eσ, eE] at s3
  refine ⟨_, s3, fr, fun b z => ?_⟩
  rw [← eE] at z
  rcases foot_put z with q | q
  · exact .inl (foot_drop q)
  · rcases kf b q with q | q
    · exact .inl ⟨r, d, g, q⟩
    · exact .inr q

/-- name.append(e) -/
def eApp (r : Nat) (ee : Env → Res (D × Env)) : Env → Res (D × Env) := fun E => match gv E r with
  | some (.lst _) => (ee E).bind fun p => match gv p.2 r with
    | some (.lst l) => if l.length < LIM then .ok (.non, p.2.set r (some (.lst (l ++ [p.1])))) else .no
    | _ => .no
  | _ => .no
theorem app_ok1 {c : Cn} {H0 H : Hp} {E0 E : Env} {σ : St} {F0 F : Nat → List Addr} {r : Nat} {l : List D} {d : D} {v w : V} {f : List Addr} (s0 : Stp c H0 E0 F0 E σ H F) (g0 : Got c H0 E0 F0 E F H d v f) (g : gv E r = some (.lst l)) (hv : σ[r]? = some (some w)) :
    ∃ a xs, w = .ref a ∧ H a = some (.lst xs) ∧ l.length = xs.length ∧ ∃ F', Stp c H0 E0 F0 (E.set r (some (.lst (l ++ [d])))) σ (upd H a (.lst (xs ++ [v]))) F' := by
  have o := sims_own s0.sim g hv
  have L := lens_nil o
  obtain ⟨a, xs, gg, rfl, h1, h2, na, ef⟩ := own_lst o
  rw [ef] at L
  have nf : ∀ b ∈ f, b ∉ gg := fun b hb z => g0.dj b hb ⟨r, _, g, by rw [ef]; exact List.mem_cons_of_mem _ z⟩
  have naf : a ∉ f := fun z => g0.dj a z ⟨r, _, g, by rw [ef]; exact List.mem_cons_self⟩
  obtain ⟨F', s1, fr, ft⟩ := mut_lst (js := []) (l' := l ++ [d]) (xs' := xs ++ [v]) (g0' := gg ++ f) (fn := f) s0.sim g hv (by rw [ef]; exact L) h1 (owns_snoc l xs gg d v f h2 g0.own nf) (fun z => by
    rcases List.mem_append.mp z with z | z
    · exact na z
    · exact naf z) (fun b hb => List.mem_append.mp hb) g0.dj
  refine ⟨a, xs, rfl, h1, owns_len l xs gg h2, F', s1, s0.fr.trans fr s0.ft, fun b z => ?_⟩
  rcases ft b z with q | q
  · exact s0.ft b q
  · exact g0.new b q
theorem lt_line {n : Nat} (h : n < LIM) : n < sizeLine := Nat.lt_of_lt_of_le h lim_line
theorem se_app (r : Nat) {o e : Expr} {te : TE} {ee : Env → Res (D × Env)} {apos cpos : Pos} (ho : PE X o (tVar r)) (he : SE X fa W e te ee) (hp : PE X o (tVar r) → PE X e te → PE X (.Call (.Attribute o "append" apos) [e] [] cpos) (tBM X.K "list" rAppend (tVar r) (tCons te tNil))) : SE X fa W (.Call (.Attribute o "append" apos) [e] [] cpos) (tBM X.K "list" rAppend (tVar r) (tCons te tNil)) (eApp r ee) :=
  ⟨hp ho he.pe, fun E σ H F Q s rr => by
    unfold eApp at rr
    split at rr
    · rename_i l0 g0
      obtain ⟨w, hw, o0⟩ := s.get r _ g0
      refine ⟨w, hw, ?_, ?_⟩
      · obtain ⟨a, xs, _, rfl, h1, _⟩ := own_lst o0
        exact .inl ⟨rfl, xs, SqL.of h1⟩
      · refine he.ok E σ H F _ s (rr.bind.mono (fun p rr u H2 F2 f s2 g2 => ?_) fun _ _ z => z)
        split at rr
        · rename_i l g3
          split at rr
          · rename_i hl
            obtain ⟨a, xs, rfl, h1, h2, F', s4⟩ := app_ok1 s2 g2 g3 hw
            exact ⟨a, xs, u, rfl, rfl, h1, lt_line (by rw [← h2]; exact hl), rr _ _ F' [] s4 ⟨own_mk_non, fun _ z => (by cases z), fun _ z => (by cases z)⟩⟩
          · exact rr.elim
        · exact rr.elim
    · exact rr.elim⟩
/-- place.append(e), nothing but the place changes -/
def eAppP (r : Nat) (ep : Env → Option (List Nat)) (ee : Env → Option D) : Env → Res (D × Env) := fun E => Res.of ((ep E).bind fun js => (gv E r).bind fun d => (ee E).bind fun y => match atD js d with
  | some (.lst l) => if l.length < LIM then some (.non, E.set r (some (modD js (fun _ => .lst (l ++ [y])) d))) else none
  | _ => none)
theorem se_appP {r : Nat} {o e : Expr} {to te : TE} {ep : Env → Option (List Nat)} {ee : Env → Option D} {apos cpos : Pos} (ho : SL X fa r o to ep) (he : SF X fa e te ee) (hp : PE X o to → PE X e te → PE X (.Call (.Attribute o "append" apos) [e] [] cpos) (tBM X.K "list" rAppend to (tCons te tNil))) : SE X fa W (.Call (.Attribute o "append" apos) [e] [] cpos) (tBM X.K "list" rAppend to (tCons te tNil)) (eAppP r ep ee) :=
  ⟨hp ho.pe he.pe, fun E σ H F Q s rr => by
    obtain ⟨p, e1, rr⟩ := rr.of
    obtain ⟨js, e2, e1⟩ := Option.bind_eq_some_iff.mp e1
    obtain ⟨d, g, e1⟩ := Option.bind_eq_some_iff.mp e1
    obtain ⟨y, e3, e1⟩ := Option.bind_eq_some_iff.mp e1
    split at e1
    · rename_i l hat
      split at e1
      · rename_i hl
        cases e1
        obtain ⟨v, hv, o0⟩ := s.get r d g
        refine ho.ok E js d _ e2 g hat σ H F s v hv _ fun w H1 gg x1 L => ?_
        obtain ⟨a, xs, g0, rfl, h1, h2, na, rfl⟩ := own_lst L.own
        refine ⟨.inl ⟨rfl, xs, SqL.of h1⟩, he.ok E y e3 σ H1 F _ (x1.sims s) fun u H2 f x2 o2 n2 => ?_⟩
        have x3 := x1.trans x2
        have s2 := x3.sims s
        have o1 := sims_own (x1.sims s) g hv
        have L2 : Lens (cn X fa) H2 d v (F r) js (.lst l) (.ref a) (a :: g0) := ⟨x2.own L.own, L.sub, fun H' ds' g' o' im kp nw => L.put H' ds' g' o' (fun a o h i => im a o (x2 a o h) i) (fun b hb n => by
          obtain ⟨o, ho, _⟩ := own_at d v (F r) o1 b hb
          rw [kp b hb n, ho, x2 b o ho]) nw⟩
        have n3 : ∀ b ∈ f, H b = none := fun b hb => x1.back (n2 b hb)
        have nF : ∀ b ∈ f, ¬ Foot E F b := fun b hb => fresh_foot s (n3 b hb)
        have sub : ∀ b ∈ a :: g0, Foot E F b := fun b hb => ⟨r, d, g, L.sub b hb⟩
        obtain ⟨F', s3, fr, ft⟩ := mut_lst (l' := l ++ [y]) (xs' := xs ++ [u]) (g0' := g0 ++ f) (fn := f) s2 g hv L2 (x2 _ _ h1) (owns_snoc l xs g0 y u f (x2.owns h2) o2 fun b hb z => nF b hb (sub b (List.mem_cons_of_mem _ z))) (fun z => by
          rcases List.mem_append.mp z with z | z
          · exact na z
          · exact nF a z (sub a List.mem_cons_self)) (fun b hb => List.mem_append.mp hb) nF
        refine ⟨a, xs, u, rfl, rfl, x2 _ _ h1, lt_line (by rw [← owns_len l xs g0 h2]; exact hl), rr _ _ F' [] ⟨s3, (Fr.of_ext x3 : Fr (Foot E F) H H2).trans fr (fun _ z => .inl z), fun b z => ?_⟩ ⟨own_mk_non, fun _ z => (by cases z), fun _ z => (by cases z)⟩⟩
        rcases ft b z with q | q
        · exact .inl q
        · exact .inr (n3 b q)
      · cases e1
    · cases e1⟩
end
end VS

set_option maxRecDepth 100000
set_option maxHeartbeats 4000000
namespace VS
open PySem L2 PyProof.Rows

theorem owns_nil_get {c : Cn} {H : Hp} {l : List D} {xs : List V} {i : Nat} {d : D} {x : V} (o : Owns c H l xs []) (h1 : l[i]? = some d) (h2 : xs[i]? = some x) : Own c H d x [] := by
  obtain ⟨x', g, e1, e2, e3⟩ := owns_get l xs [] i d o h1
  rw [h2] at e1
  cases e1
  cases g with
  | nil => exact e2
  | cons a r => exact absurd (e3 a List.mem_cons_self) (by simp)

/-! ### what is walked -/
structure Feeds (c : Cn) (J : It) (ds : List D) (xs : List V) (Iv : Hp → Prop) : Prop where
  own : ∀ H, Iv H → Owns c H ds xs []
  go : ∀ i H x, Iv H → xs[i]? = some x → J.go i H ∧ ∀ y H', J.yld i H y H' → H' = H ∧ y = x
  stop : ∀ i H, Iv H → xs.length ≤ i → J.stop i H
structure SI (X : Cx) (fa : Nat → Addr) (W : WX) (tg iter : Expr) (wi : TI) (ev : Env → Res (List D × Env)) : Prop where
  pi : PI X tg iter wi
  ok : ∀ (E : Env) (σ : L2.St) (H : Hp) (F : Nat → List Addr) (R : It → Hp → Prop), Sims (cn X fa) H E σ F →
    RP (ev E) (fun p => ∀ J H' F' xs Iv, Stp (cn X fa) H E F p.2 σ H' F' → Feeds (cn X fa) J p.1 xs Iv → (∀ E2 σ2 H2 F2, Stp (cn X fa) H' p.2 F' E2 σ2 H2 F2 → Iv H2) → R J H') (PXof (cn X fa) W H E F σ) → wi σ H R
section
variable {X : Cx} {fa : Nat → Addr} {W : WX} {pin : Pin} {tg : Expr}
def iSeq (K : PySem.W.Frag) (tl : TE) : TI := fun σ H R => tl σ H fun x H1 => ∃ a, x = .ref a ∧ (((∃ xs, SqL K H1 a xs) ∧ R (Itl K a) H1) ∨ ((∃ xs, SqT K H1 a xs) ∧ R (Itt K a) H1))
theorem pi_seq {l : Expr} {tl : TE} (hl : PE X l tl) : PI X tg l (iSeq X.K tl) := by
  refine ⟨fun pins s σ H R I h => ?_⟩
  refine thn (hl.run pins s σ H _ I h) fun v s1 ⟨x, H1, I1, r1, q1⟩ => ?_
  obtain ⟨a, e, q1⟩ := q1
  subst e
  cases r1
  rcases q1 with ⟨⟨xs, hq⟩, q⟩ | ⟨⟨xs, hq⟩, q⟩
  · obtain ⟨its, rv, p, hz⟩ := I1.list hq
    refine wpAny_pyIter_list p.isList ?_
    refine ⟨s1.heap.objs.size, [s1.heap.objs.size], _, _, H1, rfl, I1.kept (t' := s1.toks) fun b o e => Heap.get?_push_of_some _ e, turn_list a _, ⟨_, Heap.get?_push_size _ rfl, rfl, rfl⟩, fun b hb => ?_, q⟩
    have e : b = s1.heap.objs.size := by simpa using hb
    subst e
    exact I1.fpOk (Nat.le_refl _) (I1.hok.fresh (Nat.le_refl _))
  · obtain ⟨its, rv, p, hz⟩ := I1.tuple hq
    refine wpAny_pyIter_tuple (show s1.heap.IsTuple a its.toArray from p) ?_
    refine ⟨s1.heap.objs.size, [s1.heap.objs.size], _, _, H1, rfl, I1.kept (t' := s1.toks) fun b o e => Heap.get?_push_of_some _ e, turn_tuple a _, ⟨_, Heap.get?_push_size _ rfl, rfl, rfl⟩, fun b hb => ?_, q⟩
    have e : b = s1.heap.objs.size := by simpa using hb
    subst e
    exact I1.fpOk (Nat.le_refl _) (I1.hok.fresh (Nat.le_refl _))
theorem feeds_lst {c : Cn} {a : Addr} {ds : List D} {xs : List V} : Feeds c (Itl c.K a) ds xs (fun H => H a = some (.lst xs) ∧ Owns c H ds xs []) :=
  ⟨fun H h => h.2, fun i H x h e => ⟨⟨xs, x, SqL.of h.1, e⟩, fun y H' q => ⟨q.1, by
    have := q.2 xs (SqL.of h.1)
    rw [e] at this
    exact (Option.some.inj this).symm⟩⟩, fun i H h l => ⟨xs, SqL.of h.1, l⟩⟩
theorem feeds_rol {c : Cn} {a : Addr} {ds : List D} {xs : List V} : Feeds c (Itl c.K a) ds xs (fun H => RoL c.K H a xs ∧ Owns c H ds xs []) :=
  ⟨fun H h => h.2, fun i H x h e => ⟨⟨xs, x, h.1.sq, e⟩, fun y H' q => ⟨q.1, by
    have := q.2 xs h.1.sq
    rw [e] at this
    exact (Option.some.inj this).symm⟩⟩, fun i H h l => ⟨xs, h.1.sq, l⟩⟩
theorem feeds_tup {c : Cn} {a : Addr} {ds : List D} {xs : List V} : Feeds c (Itt c.K a) ds xs (fun H => SqT c.K H a xs ∧ Owns c H ds xs []) :=
  ⟨fun H h => h.2, fun i H x h e => ⟨⟨xs, x, h.1, e⟩, fun y H' q => ⟨q.1, by
    have := q.2 xs h.1
    rw [e] at this
    exact (Option.some.inj this).symm⟩⟩, fun i H h l => ⟨xs, h.1, l⟩⟩
def itemsOf : D → Option (List D)
  | .tup l => if pures l then some l else none
  | .lst l => if pures l then some l else none
  | .rol l => some (l.map .int)
  | _ => none
theorem owns_ints {c : Cn} {H : Hp} : ∀ l : List Int, Owns c H (l.map .int) (l.map V.int) []
  | [] => by simp [Owns]
  | i :: r => by
    simp only [List.map_cons, Owns]
    exact ⟨.int i, r.map V.int, [], [], rfl, own_mk_int, owns_ints r, (fun _ z => by cases z), rfl⟩
def iS (ee : Env → Res (D × Env)) : Env → Res (List D × Env) := fun E => (ee E).bind fun p => Res.of ((itemsOf p.1).map fun l => (l, p.2))
theorem si_seq {l : Expr} {tl : TE} {ee : Env → Res (D × Env)} (h : SE X fa W l tl ee) : SI X fa W tg l (iSeq X.K tl) (iS ee) :=
  ⟨pi_seq h.pe, fun E σ H F R s r => by
    refine h.ok E σ H F _ s (r.bind.mono (fun p r v H1 F1 f s1 g1 => ?_) fun _ _ z => z)
    obtain ⟨q, e1, r⟩ := r.of
    obtain ⟨ds, e2, rfl⟩ := Option.map_eq_some_iff.mp e1
    have o := g1.own
    cases e : p.1 with
    | tup m =>
      rw [e] at o e2
      simp only [itemsOf] at e2
      split at e2
      · rename_i pm
        cases e2
        obtain ⟨a, xs, rfl, h1, h2⟩ := own_tup o
        have h2 := owns_nil h2 pm
        exact ⟨a, rfl, .inr ⟨⟨xs, SqT.of h1⟩, r _ H1 F1 xs _ s1 feeds_tup fun E2 σ2 H2 F2 s2 => ⟨s2.fr.imm.sqT (SqT.of h1), s2.fr.owns h2 fun _ z => by cases z⟩⟩⟩
      · cases e2
    | lst m =>
      rw [e] at o e2
      simp only [itemsOf] at e2
      split at e2
      · rename_i pm
        cases e2
        obtain ⟨a, xs, g, rfl, h1, h2, na, rfl⟩ := own_lst o
        have h2 := owns_nil h2 pm
        exact ⟨a, rfl, .inl ⟨⟨xs, SqL.of h1⟩, r _ H1 F1 xs _ s1 feeds_lst fun E2 σ2 H2 F2 s2 => ⟨s2.fr a _ h1 (.inl (g1.dj a List.mem_cons_self)), s2.fr.owns h2 fun _ z => by cases z⟩⟩⟩
      · cases e2
    | rol m =>
      rw [e] at o e2
      cases e2
      simp only [Own] at o
      obtain ⟨⟨a, rfl, h1⟩, _⟩ := o
      exact ⟨a, rfl, .inl ⟨⟨_, h1.sq⟩, r _ H1 F1 _ _ s1 feeds_rol fun E2 σ2 H2 F2 s2 => ⟨s2.fr.imm.roL h1, owns_ints m⟩⟩⟩
    | _ => rw [e] at e2; cases e2⟩
/-- ranges -/
def rngs (lo : Int) (n : Nat) : List D := (List.range n).map fun k => .int (lo + (k : Nat))
def rngV (lo : Int) (n : Nat) : List V := (List.range n).map fun k => .int (lo + (k : Nat))
theorem owns_rng {c : Cn} {H : Hp} {lo : Int} {n : Nat} : Owns c H (rngs lo n) (rngV lo n) [] := by
  refine owns_of_all _ _ (by simp [rngs, rngV]) fun i d x h1 h2 => ?_
  unfold rngs at h1
  unfold rngV at h2
  rw [List.getElem?_map] at h1 h2
  obtain ⟨k, e1, rfl⟩ := Option.map_eq_some_iff.mp h1
  rw [e1] at h2
  cases h2
  exact own_mk_int
theorem feeds_rng {c : Cn} {lo : Int} {n : Nat} : Feeds c (Itr lo n) (rngs lo n) (rngV lo n) (fun _ => True) :=
  ⟨fun H _ => owns_rng, fun i H x _ e => by
    unfold rngV at e
    rw [List.getElem?_map] at e
    obtain ⟨k, e1, rfl⟩ := Option.map_eq_some_iff.mp e
    obtain ⟨h1, h2⟩ := List.getElem?_eq_some_iff.mp e1
    rw [List.getElem_range] at h2
    subst h2
    rw [List.length_range] at h1
    exact ⟨h1, fun y H' q => ⟨q.1, q.2⟩⟩, fun i H _ l => by
    have : (rngV lo n).length = n := by simp [rngV]
    show n ≤ i
    omega⟩
def smallR (i : Int) : Bool := decide (-(2 ^ 62) ≤ i) && decide (i < 2 ^ 62)
def iR1 (ea : Env → Res (List D × Env)) : Env → Res (List D × Env) := fun E => (ea E).bind fun p => match p.1 with
  | [.int n] => if smallR n then .ok (rngs 0 n.toNat, p.2) else .no
  | _ => .no
theorem owns_1 {c : Cn} {H : Hp} {d : D} {vs : List V} {f : List Addr} (o : Owns c H [d] vs f) : ∃ v g, vs = [v] ∧ Own c H d v g := by
  simp only [Owns] at o
  obtain ⟨x, ys, g, h, rfl, o1, ⟨rfl, _⟩, _⟩ := o
  exact ⟨x, g, rfl, o1⟩
theorem owns_2 {c : Cn} {H : Hp} {d e : D} {vs : List V} {f : List Addr} (o : Owns c H [d, e] vs f) : ∃ v w g h, vs = [v, w] ∧ Own c H d v g ∧ Own c H e w h := by
  simp only [Owns] at o
  obtain ⟨x, ys, g, h, rfl, o1, ⟨y, zs, g', h', rfl, o2, ⟨rfl, _⟩, _⟩, _⟩ := o
  exact ⟨x, y, g, g', rfl, o1, o2⟩
theorem owns_3 {c : Cn} {H : Hp} {d e b : D} {vs : List V} {f : List Addr} (o : Owns c H [d, e, b] vs f) : ∃ v w u g h k, vs = [v, w, u] ∧ Own c H d v g ∧ Own c H e w h ∧ Own c H b u k := by
  simp only [Owns] at o
  obtain ⟨x, ys, g, h, rfl, o1, ⟨y, zs, g', h', rfl, o2, ⟨z, us, g'', h'', rfl, o3, ⟨rfl, _⟩, _⟩, _⟩, _⟩ := o
  exact ⟨x, y, z, g, g', g'', rfl, o1, o2, o3⟩
theorem si_rng1 {a : Expr} {ta : TA} {p pos : Pos} {ea : Env → Res (List D × Env)} (hm : X.mg "range" = none) (h : SEs X fa W [a] ta ea) (hg : Gl X "range" := by rfl) (hs : starEach [a] X.env = [(false, eval a X.env)] := by rfl) : SI X fa W tg (.Call (.Name "range" p) [a] [] pos) (iRng1 ta) (iR1 ea) :=
  ⟨pi_range1 hg hm h.pa hs, fun E σ H F R s r => by
    refine h.ok E σ H F _ s (r.bind.mono (fun p r vs H1 F1 f s1 g1 => ?_) fun _ _ z => z)
    have o := g1.own
    split at r
    · rename_i n e
      rw [e] at o
      obtain ⟨v, g, rfl, o1⟩ := owns_1 o
      split at r
      · rename_i q
        unfold smallR at q
        simp only [Bool.and_eq_true, decide_eq_true_eq] at q
        refine ⟨n, by rw [own_int o1], q.1, q.2, r _ H1 F1 _ _ s1 feeds_rng fun _ _ _ _ _ => trivial⟩
      · exact r.elim
    · exact r.elim⟩
def iR2 (ea : Env → Res (List D × Env)) : Env → Res (List D × Env) := fun E => (ea E).bind fun p => match p.1 with
  | [.int m, .int n] => if smallR m && smallR n then .ok (rngs m (n - m).toNat, p.2) else .no
  | _ => .no
theorem si_rng2 {a b : Expr} {ta : TA} {p pos : Pos} {ea : Env → Res (List D × Env)} (hm : X.mg "range" = none) (h : SEs X fa W [a, b] ta ea) (hg : Gl X "range" := by rfl) (hs : starEach [a, b] X.env = [(false, eval a X.env), (false, eval b X.env)] := by rfl) (hs2 : starEach [b] X.env = [(false, eval b X.env)] := by rfl) :
    SI X fa W tg (.Call (.Name "range" p) [a, b] [] pos) (iRng2 ta) (iR2 ea) :=
  ⟨pi_range2 hg hm h.pa hs hs2, fun E σ H F R s r => by
    refine h.ok E σ H F _ s (r.bind.mono (fun p r vs H1 F1 f s1 g1 => ?_) fun _ _ z => z)
    have o := g1.own
    split at r
    · rename_i m n e
      rw [e] at o
      obtain ⟨v, w, g, h', rfl, o1, o2⟩ := owns_2 o
      split at r
      · rename_i q
        unfold smallR at q
        simp only [Bool.and_eq_true, decide_eq_true_eq] at q
        refine ⟨m, n, by rw [own_int o1, own_int o2], ⟨q.1.1, q.1.2, q.2.1, q.2.2⟩, r _ H1 F1 _ _ s1 feeds_rng fun _ _ _ _ _ => trivial⟩
      · exact r.elim
    · exact r.elim⟩
/-- range(m, n, -1) -/
def rngsD (lo : Int) (n : Nat) : List D := (List.range n).map fun k => .int (lo - (k : Nat))
def rngVD (lo : Int) (n : Nat) : List V := (List.range n).map fun k => .int (lo - (k : Nat))
theorem owns_rngD {c : Cn} {H : Hp} {lo : Int} {n : Nat} : Owns c H (rngsD lo n) (rngVD lo n) [] := by
  refine owns_of_all _ _ (by simp [rngsD, rngVD]) fun i d x h1 h2 => ?_
  unfold rngsD at h1
  unfold rngVD at h2
  rw [List.getElem?_map] at h1 h2
  obtain ⟨k, e1, rfl⟩ := Option.map_eq_some_iff.mp h1
  rw [e1] at h2
  cases h2
  exact own_mk_int
theorem feeds_rngD {c : Cn} {lo : Int} {n : Nat} : Feeds c (Itc lo (-1) n) (rngsD lo n) (rngVD lo n) (fun _ => True) :=
  ⟨fun H _ => owns_rngD, fun i H x _ e => by
    unfold rngVD at e
    rw [List.getElem?_map] at e
    obtain ⟨k, e1, rfl⟩ := Option.map_eq_some_iff.mp e
    obtain ⟨h1, h2⟩ := List.getElem?_eq_some_iff.mp e1
    rw [List.getElem_range] at h2
    subst h2
    rw [List.length_range] at h1
    exact ⟨h1, fun y H' q => ⟨q.1, by rw [q.2]; congr 1; omega⟩⟩, fun i H _ l => by
    have : (rngVD lo n).length = n := by simp [rngVD]
    show n ≤ i
    omega⟩
def iR3 (ea : Env → Res (List D × Env)) : Env → Res (List D × Env) := fun E => (ea E).bind fun p => match p.1 with
  | [.int m, .int n, .int c] => if c == -1 && smallR m && smallR n then .ok (rngsD m (m - n).toNat, p.2) else .no
  | _ => .no
theorem si_rng3 {a b d : Expr} {ta : TA} {p pos : Pos} {ea : Env → Res (List D × Env)} (hm : X.mg "range" = none) (h : SEs X fa W [a, b, d] ta ea) (hg : Gl X "range" := by rfl) (hs : starEach [a, b, d] X.env = (false, eval a X.env) :: starEach [b, d] X.env := by rfl) (hpl : (backTo pos (starEach [b, d] X.env)).any (·.1) = false := by rfl) :
    SI X fa W tg (.Call (.Name "range" p) [a, b, d] [] pos) (iRng3 ta) (iR3 ea) :=
  ⟨pi_range3 hg hm h.pa hs hpl, fun E σ H F R s r => by
    refine h.ok E σ H F _ s (r.bind.mono (fun p r vs H1 F1 f s1 g1 => ?_) fun _ _ z => z)
    have o := g1.own
    split at r
    · rename_i m n c e
      rw [e] at o
      obtain ⟨v, w, u, g, h', k', rfl, o1, o2, o3⟩ := owns_3 o
      split at r
      · rename_i q
        unfold smallR at q
        simp only [Bool.and_eq_true, decide_eq_true_eq, beq_iff_eq] at q
        obtain ⟨⟨rfl, q1⟩, q2⟩ := q
        exact ⟨m, n, -1, _, by rw [own_int o1, own_int o2, own_int o3], RgC.neg q1.1 q1.2 q2.1 q2.2, r _ H1 F1 _ _ s1 feeds_rngD fun _ _ _ _ _ => trivial⟩
      · exact r.elim
    · exact r.elim⟩

/-! ### loops -/
def loopK (r : SR) (k : Env → SR) : SR := match r with
  | .nx E => k E
  | .ct E => k E
  | .bk E => .nx E
  | .rt d E => .rt d E
  | .exc x E => .exc x E
  | .no => .no
@[simp] theorem loopK_nx {E : Env} {k : Env → SR} : loopK (.nx E) k = k E := rfl
@[simp] theorem loopK_ct {E : Env} {k : Env → SR} : loopK (.ct E) k = k E := rfl
@[simp] theorem loopK_bk {E : Env} {k : Env → SR} : loopK (.bk E) k = .nx E := rfl
@[simp] theorem loopK_rt {d : D} {E : Env} {k : Env → SR} : loopK (.rt d E) k = .rt d E := rfl
@[simp] theorem loopK_exc {x : ExcV} {E : Env} {k : Env → SR} : loopK (.exc x E) k = .exc x E := rfl
@[simp] theorem loopK_no {k : Env → SR} : loopK .no k = .no := rfl
theorem srok_loop {c : Cn} {H : Hp} {E : Env} {F : Nat → List Addr} {σ : L2.St} {D : Ends} {r : SR} {k : Env → SR} {N : L2.St → Hp → Prop} (h : SRok c W pin H E F σ D (loopK r k))
    (hu : ∀ E1 σ1 H1 F1, Stp c H E F E1 σ1 H1 F1 → Pn pin σ σ1 → SRok c W pin H1 E1 F1 σ1 D (k E1) → N σ1 H1) : SRok c W pin H E F σ { D with nx := N, ct := N, bk := D.nx } r := by
  cases r with
  | nx E' => exact fun σ' H' F' s p => hu E' σ' H' F' s p (h.first s p)
  | bk E' => exact h
  | ct E' => exact fun σ' H' F' s p => hu E' σ' H' F' s p (h.first s p)
  | rt d E' => exact h
  | exc x E' => exact h
  | no => exact h
def forL (bd : D → Env → Option Env) (b : Env → SR) : List D → Env → SR
  | [], E => .nx E
  | d :: r, E => match bd d E with
    | some E1 => loopK (b E1) (forL bd b r)
    | none => .no
def sFor (ev : Env → Res (List D × Env)) (bd : D → Env → Option Env) (b : Env → SR) : Env → SR := fun E => (ev E).sr fun p => forL bd b p.1 p.2
theorem drop_cons {α : Type} {l : List α} {i : Nat} {d : α} (h : l[i]? = some d) : l.drop i = d :: l.drop (i + 1) := by
  obtain ⟨h1, h2⟩ := List.getElem?_eq_some_iff.mp h
  rw [List.drop_eq_getElem_cons h1, h2]
theorem for_core {g : TG} {tb : TS} {bd : D → Env → Option Env} {b : Env → SR} {body : List Stmt} {J : It} {H1 : Hp} {E1 : Env} {F1 : Nat → List Addr} {σ : L2.St} {ds : List D} {xs : List V} {Iv : Hp → Prop} {D : Ends} (hg : SG X fa pin tg g bd) (hb : SSs X fa W pin body tb b)
    (s1 : Sims (cn X fa) H1 E1 σ F1) (fd : Feeds (cn X fa) J ds xs Iv) (st : ∀ E2 σ2 H2 F2, Stp (cn X fa) H1 E1 F1 E2 σ2 H2 F2 → Iv H2) (r : SRok (cn X fa) W pin H1 E1 F1 σ D (forL bd b ds E1)) :
    ∃ Wd : Nat → Nat → L2.St → Hp → Prop, (∃ m, Wd 0 m σ H1) ∧ ∀ i m σ H, Wd i m σ H → (J.stop i H ∧ D.nx σ H) ∨ (J.go i H ∧ ∃ N : L2.St → Hp → Prop, (∀ σ' H', N σ' H' → ∃ m', m' < m ∧ Wd (i + 1) m' σ' H') ∧ ∀ x H', J.yld i H x H' → g x σ H' fun σ2 H2 => tb { D with nx := N, ct := N, bk := D.nx } σ2 H2) := by
  have hl : ds.length = xs.length := owns_len ds xs [] (fd.own H1 (st E1 σ H1 F1 (Stp.refl s1)))
  refine ⟨fun i m σ' H' => m = xs.length - i ∧ i ≤ xs.length ∧ ∃ E' F', Stp (cn X fa) H1 E1 F1 E' σ' H' F' ∧ SRok (cn X fa) W pin H' E' F' σ' D (forL bd b (ds.drop i) E'), ⟨xs.length, by simp, Nat.zero_le _, E1, F1, Stp.refl s1, r⟩, ?_⟩
  rintro i m σ' H' ⟨rfl, hi, E', F', s', r'⟩
  have iv := st E' σ' H' F' s'
  by_cases hlt : i < xs.length
  · have hx : xs[i]? = some xs[i] := List.getElem?_eq_getElem hlt
    have hd : ds[i]? = some (ds[i]'(by omega)) := List.getElem?_eq_getElem (by omega)
    obtain ⟨g1, g2⟩ := fd.go i H' xs[i] iv hx
    rw [drop_cons hd] at r'
    unfold forL at r'
    refine .inr ⟨g1, fun σ2 H2 => ∃ E2 F2, Stp (cn X fa) H1 E1 F1 E2 σ2 H2 F2 ∧ SRok (cn X fa) W pin H2 E2 F2 σ2 D (forL bd b (ds.drop (i + 1)) E2), fun σ2 H2 z => ⟨xs.length - (i + 1), by omega, rfl, hlt, z⟩, fun x H2 y => ?_⟩
    obtain ⟨rfl, rfl⟩ := g2 x H2 y
    split at r'
    · rename_i E3 e3
      refine hg.ok E' E3 _ _ [] σ' H2 F' _ e3 s'.sim (owns_nil_get (fd.own H2 iv) hd hx) (fun _ z => by cases z) fun σ3 F3 s3 ft3 p3 => ?_
      have st3 : Stp (cn X fa) H2 E' F' E3 σ3 H2 F3 := ⟨s3, Fr.refl, fun a z => .inl (by
        rcases ft3 a z with q | q
        · exact q
        · cases q)⟩
      refine hb.ok E3 σ3 H2 F3 _ s3 (srok_loop (r'.first st3 p3) fun E4 σ4 H4 F4 s4 p4 r4 => ⟨E4, F4, (s'.trans st3).trans s4, r4⟩)
    · exact r'.elim
  · have e : i = xs.length := by omega
    rw [List.drop_of_length_le (by omega)] at r'
    exact .inl ⟨fd.stop i H' iv (by omega), r' σ' H' F' (Stp.refl s'.sim) Pn.refl⟩
theorem ss_for {iter : Expr} {body : List Stmt} {wi : TI} {g : TG} {tb : TS} {ev : Env → Res (List D × Env)} {bd : D → Env → Option Env} {b : Env → SR} {pos : Pos} (hp : PassesOwn (model X.prog X.w) X.A X.env X.xe) (hc : X.calm = true) (hi : SI X fa W tg iter wi ev) (hg : SG X fa pin tg g bd) (hb : SSs X fa W pin body tb b)
    (hs : ∀ x, foldedSetIterable iter X.env x = pure x := by intro _; rfl) : SS X fa W pin (.For tg iter body [] pos) (tFor wi g tb) (sFor ev bd b) :=
  ⟨ps_for hp hc hi.pi hg.pg hb.ps hs, fun E σ H F D s r => hi.ok E σ H F _ s ((rp_sr r).mono (fun p r J H1 F1 xs Iv s1 fd st => for_core hg hb s1.sim fd st (r.first s1 Pn.refl)) fun _ _ z => z)⟩
/-- a while: at most so many turns -/
def whileN (ec : Env → Res (Bool × Env)) (b : Env → SR) : Nat → Env → SR
  | 0, _ => .no
  | n + 1, E => (ec E).sr fun p => if p.1 then loopK (b p.2) (whileN ec b n) else .nx p.2
theorem ss_while {c : Expr} {body : List Stmt} {tc : TT} {tb : TS} {ec : Env → Res (Bool × Env)} {b : Env → SR} {pos : Pos} (n : Nat) (hp : PassesOwn (model X.prog X.w) X.A X.env X.xe) (hc : SPE X fa W c tc ec) (hb : SSs X fa W pin body tb b) : SS X fa W pin (.While c body [] pos) (tWhile tc tb) (whileN ec b n) :=
  ⟨ps_while hp hc.pt hb.ps, fun E σ H F D s r => by
    refine ⟨fun m σ' H' => ∃ E' F', Stp (cn X fa) H E F E' σ' H' F' ∧ SRok (cn X fa) W pin H' E' F' σ' D (whileN ec b m E'), ⟨n, E, F, Stp.refl s, r⟩, ?_⟩
    rintro m σ' H' ⟨E', F', s', r'⟩
    cases m with
    | zero => exact r'.elim
    | succ m =>
      unfold whileN at r'
      refine hc.ok E' σ' H' F' _ s'.sim ((rp_sr r').mono (fun p r1 H1 F1 s1 => ?_) fun _ _ z => z)
      have r2 := r1.first s1 Pn.refl
      cases hp1 : p.1 with
      | true =>
        rw [hp1] at r2
        refine ⟨fun σ2 H2 => ∃ E2 F2, Stp (cn X fa) H E F E2 σ2 H2 F2 ∧ SRok (cn X fa) W pin H2 E2 F2 σ2 D (whileN ec b m E2), fun σ2 H2 z => ⟨m, Nat.lt_succ_self m, z⟩, ?_⟩
        exact hb.ok p.2 σ' H1 F1 _ s1.sim (srok_loop r2 fun E4 σ4 H4 F4 s4 p4 r4 => ⟨E4, F4, (s'.trans s1).trans s4, r4⟩)
      | false =>
        rw [hp1] at r2
        exact r2 σ' H1 F1 (Stp.refl s1.sim) Pn.refl⟩
end
end VS

set_option maxRecDepth 100000
set_option maxHeartbeats 4000000
namespace VS
open PySem L2

/-! ### comprehensions -/
def wipeE (E : Env) : List Nat → Env
  | [] => E
  | v :: vs => (wipeE E vs).set v none
theorem gv_wipeE : ∀ {own : List Nat} {E : Env} {j : Nat} {d : D}, gv (wipeE E own) j = some d → gv E j = some d ∧ j ∉ own
  | [], E, j, d, h => ⟨h, by simp⟩
  | v :: vs, E, j, d, h => by
    obtain ⟨h1, h2⟩ := gv_set_none (E := wipeE E vs) h
    obtain ⟨h3, h4⟩ := gv_wipeE h1
    exact ⟨h3, by simp [h2, h4]⟩
theorem wipeE_len : ∀ {own : List Nat} {E : Env}, (wipeE E own).length = E.length
  | [], E => rfl
  | v :: vs, E => by unfold wipeE; rw [List.length_set, wipeE_len]
theorem wipe_get : ∀ {own : List Nat} {σ : L2.St} {j : Nat}, j ∉ own → (wipe σ own)[j]? = σ[j]?
  | [], σ, j, _ => rfl
  | v :: vs, σ, j, h => by
    unfold wipe
    rw [List.getElem?_set_ne (fun z => h (by simp [z])), wipe_get (fun z => h (by simp [z]))]
theorem wipe_own : ∀ {own : List Nat} {σ : L2.St} {j : Nat}, j ∈ own → j < σ.length → (wipe σ own)[j]? = some none
  | v :: vs, σ, j, h, l => by
    unfold wipe
    by_cases e : v = j
    · subst e
      rw [List.getElem?_set_self (by rw [wipe_length]; exact l)]
    · rw [List.getElem?_set_ne e]
      exact wipe_own ((List.mem_cons.mp h).resolve_left fun z => e z.symm) l
theorem wipe_eq {own : List Nat} {σ σ2 : L2.St} (hl : σ2.length = σ.length) (h : ∀ j, j ∉ own → σ2[j]? = (wipe σ own)[j]?) : wipe σ2 own = wipe σ own := by
  apply List.ext_getElem?
  intro j
  by_cases q : j ∈ own
  · by_cases l : j < σ.length
    · rw [wipe_own q l, wipe_own q (by omega)]
    · rw [List.getElem?_eq_none (by rw [wipe_length]; omega), List.getElem?_eq_none (by rw [wipe_length]; omega)]
  · rw [wipe_get q]
    exact h j q
section
variable {c : Cn} {H : Hp} {E : Env} {F : Nat → List Addr}
theorem sims_wipe {σ : L2.St} (s : Sims c H E σ F) (own : List Nat) : Sims c H (wipeE E own) (wipe σ own) F :=
  ⟨by rw [wipeE_len, wipe_length]; exact s.len, fun i d g => by
    obtain ⟨g1, n⟩ := gv_wipeE g
    rw [wipe_get n]
    exact s.get i d g1, fun i j d e n g g' => s.dj i j d e n (gv_wipeE g).1 (gv_wipeE g').1⟩
theorem sims_unwipe {σ σ2 : L2.St} {own : List Nat} (s : Sims c H E σ2 F) (h : wipe σ2 own = wipe σ own) : Sims c H (wipeE E own) σ F :=
  ⟨by
    have := congrArg List.length h
    rw [wipe_length, wipe_length] at this
    rw [wipeE_len, s.len, this], fun i d g => by
    obtain ⟨g1, n⟩ := gv_wipeE g
    rw [← wipe_get n, ← h, wipe_get n]
    exact s.get i d g1, fun i j d e n g g' => s.dj i j d e n (gv_wipeE g).1 (gv_wipeE g').1⟩
theorem foot_wipe {own : List Nat} {a : Addr} (z : Foot (wipeE E own) F a) : Foot E F a := by
  obtain ⟨j, d, g, ha⟩ := z
  exact ⟨j, d, (gv_wipeE g).1, ha⟩
end
theorem sims_keep {c : Cn} {H H' : Hp} {E : Env} {σ : L2.St} {F : Nat → List Addr} (s : Sims c H E σ F) (k : ImmK H H') (e : ∀ a, Foot E F a → H' a = H a) : Sims c H' E σ F :=
  ⟨s.len, fun i d g => by
    obtain ⟨v, h1, h2⟩ := s.get i d g
    exact ⟨v, h1, own_keep k d v _ h2 fun a ha => e a ⟨i, d, g, ha⟩⟩, s.dj⟩
theorem wipeE_none : ∀ {own : List Nat} {E : Env} {j : Nat}, j ∈ own → j < E.length → (wipeE E own)[j]? = some none
  | v :: vs, E, j, h, l => by
    unfold wipeE
    by_cases e : v = j
    · subst e
      rw [List.getElem?_set_self (by rw [wipeE_len]; exact l)]
    · rw [List.getElem?_set_ne e]
      exact wipeE_none ((List.mem_cons.mp h).resolve_left fun z => e z.symm) l
theorem wipeE_get : ∀ {own : List Nat} {E : Env} {j : Nat}, j ∉ own → (wipeE E own)[j]? = E[j]?
  | [], E, j, _ => rfl
  | v :: vs, E, j, h => by
    unfold wipeE
    rw [List.getElem?_set_ne (fun z => h (by simp [z])), wipeE_get (fun z => h (by simp [z]))]
theorem wipeE_idem {own : List Nat} {E : Env} : wipeE (wipeE E own) own = wipeE E own := by
  apply List.ext_getElem?
  intro j
  by_cases q : j ∈ own
  · by_cases l : j < E.length
    · rw [wipeE_none q (by rw [wipeE_len]; exact l), wipeE_none q l]
    · rw [List.getElem?_eq_none (by rw [wipeE_len, wipeE_len]; omega), List.getElem?_eq_none (by rw [wipeE_len]; omega)]
  · rw [wipeE_get q]
def noX {α : Type} (r : Res α) : Res α := match r with
  | .ok a => .ok a
  | _ => .no
@[simp] theorem noX_ok {α : Type} {a : α} : noX (Res.ok a) = .ok a := rfl
@[simp] theorem noX_no {α : Type} : noX (Res.no : Res α) = .no := rfl
theorem noX_bind {α β : Type} {r : Res α} {k : α → Res β} {P : β → Prop} {PX PX' : ExcV → Env → Prop} (h : RP ((noX r).bind k) P PX) : RP r (fun a => RP (k a) P PX) PX' := by
  cases r with
  | ok a => exact h
  | exc x E => exact h.elim
  | no => exact h.elim
def lcL (bd : D → Env → Option Env) (et : Env → Res (Bool × Env)) (ee : Env → Res (D × Env)) (own : List Nat) : List D → List D → Env → Res (List D × Env)
  | [], acc, E => .ok (acc, E)
  | d :: r, acc, E => (Res.of (bd d E)).bind fun E1 => (noX (et E1)).bind fun p => if p.1 then (noX (ee p.2)).bind fun q => if acc.length < LIM then lcL bd et ee own r (acc ++ [q.1]) (wipeE q.2 own) else .no else lcL bd et ee own r acc (wipeE p.2 own)
def eLc (ev : Env → Res (List D × Env)) (bd : D → Env → Option Env) (et : Env → Res (Bool × Env)) (ee : Env → Res (D × Env)) (own : List Nat) : Env → Res (D × Env) := fun E => (ev E).bind fun p => (lcL bd et ee own p.1 [] (wipeE p.2 own)).bind fun q => .ok (.lst q.1, q.2)
abbrev W0 : WX := fun _ _ _ _ => False
/-- the tests of a clause -/
structure STs (X : Cx) (fa : Nat → Addr) (ifs : List Expr) (t : TT) (ev : Env → Res (Bool × Env)) : Prop where
  pt : PTs X ifs t
  ok : ∀ (E : Env) (σ : L2.St) (H : Hp) (F : Nat → List Addr) (Q : Bool → Hp → Prop), Sims (cn X fa) H E σ F →
    RP (ev E) (fun p => ∀ H' F', Stp (cn X fa) H E F p.2 σ H' F' → Q p.1 H') (PXof (cn X fa) W0 H E F σ) → t σ H Q
def tYesE : Env → Res (Bool × Env) := fun E => .ok (true, E)
section
variable {X : Cx} {fa : Nat → Addr} {W : WX} {pin : Pin}
theorem sts_nil : STs X fa [] tYes tYesE := ⟨pts_nil, fun E σ H F Q s r => r H F (Stp.refl s)⟩
theorem sts_one {e : Expr} {t : TT} {ec : Env → Res (Bool × Env)} (h : SPE X fa W0 e t ec) : STs X fa [e] t ec := ⟨pts_one h.pt, h.ok⟩
def pinOf (own : List Nat) : Pin := fun j => !own.contains j
abbrev ownIx (own : List (Str × Nat)) : List Nat := own.map (·.2)
/-- the turns of a comprehension -/
theorem lc_core0 {g : TG} {tt : TT} {te : TE} {bd : D → Env → Option Env} {et : Env → Res (Bool × Env)} {ee : Env → Res (D × Env)} {own : List Nat} {J : It} {H1 : Hp} {E1 : Env} {F1 : Nat → List Addr} {σ : L2.St} {ds : List D} {xs : List V} {Iv : Hp → Prop} {Q : VK} {PX : ExcV → Env → Prop}
    (hg : ∀ (E E' : Env) (d : D) (v : V) (f : List Addr) (σ : L2.St) (H : Hp) (F : Nat → List Addr) (Q : L2.St → Hp → Prop), bd d E = some E' → Sims (cn X fa) H E σ F → Own (cn X fa) H d v f → (∀ a ∈ f, ¬ Foot E F a) →
      (∀ σ' F', Sims (cn X fa) H E' σ' F' → (∀ a, Foot E' F' a → Foot E F a ∨ a ∈ f) → Pn (pinOf own) σ σ' → Q σ' H) → g v σ H Q)
    (ht : ∀ (E : Env) (σ : L2.St) (H : Hp) (F : Nat → List Addr) (Q : Bool → Hp → Prop), Sims (cn X fa) H E σ F →
      RP (et E) (fun p => ∀ H' F', Stp (cn X fa) H E F p.2 σ H' F' → Q p.1 H') (PXof (cn X fa) W0 H E F σ) → tt σ H Q)
    (he : ∀ (E : Env) (σ : L2.St) (H : Hp) (F : Nat → List Addr) (Q : VK), Sims (cn X fa) H E σ F →
      RP (ee E) (fun p => ∀ v H' F' f, Stp (cn X fa) H E F p.2 σ H' F' → Got (cn X fa) H E F p.2 F' H' p.1 v f → Q v H') (PXof (cn X fa) W0 H E F σ) → te σ H Q)
    (s1 : Sims (cn X fa) H1 E1 σ F1) (hw : wipeE E1 own = E1) (fd : Feeds (cn X fa) J ds xs Iv) (st : ∀ E2 σ2 H2 F2, Stp (cn X fa) H1 E1 F1 E2 σ2 H2 F2 → Iv H2)
    (r : RP (lcL bd et ee own ds [] E1) (fun q => ∀ v H' F' f, Stp (cn X fa) H1 E1 F1 q.2 σ H' F' → Got (cn X fa) H1 E1 F1 q.2 F' H' (.lst q.1) v f → Q v H') PX) :
    ∀ Dl, H1 Dl = none → ∃ Wd : Nat → Nat → Hp → Prop, (∃ m, Wd 0 m (upd H1 Dl (.lst []))) ∧ ∀ i m H, Wd i m H → (J.stop i H ∧ Q (.ref Dl) H) ∨ (J.go i H ∧ ∃ Nx : Hp → Prop, (∀ H', Nx H' → ∃ m', m' < m ∧ Wd (i + 1) m' H') ∧ ∀ x H', J.yld i H x H' → g x (wipe σ own) H' fun σ2 H2 => wipe σ2 own = wipe σ own ∧ tt σ2 H2 fun b H3 =>
      if b = true then te σ2 H3 fun y H4 => ∃ acc, H4 Dl = some (.lst acc) ∧ acc.length < sizeLine ∧ Nx (upd H4 Dl (.lst (acc ++ [y]))) else Nx H3) := by
  intro Dl hD
  have hl : ds.length = xs.length := owns_len ds xs [] (fd.own H1 (st E1 σ H1 F1 (Stp.refl s1)))
  refine ⟨fun i m H' => m = xs.length - i ∧ i ≤ xs.length ∧ ∃ E' F' acc vs f, wipeE E' own = E' ∧ Stp (cn X fa) H1 E1 F1 E' σ H' F' ∧ Owns (cn X fa) H' acc vs f ∧ H' Dl = some (.lst vs) ∧ Dl ∉ f ∧ ¬ Foot E' F' Dl ∧ (∀ a ∈ f, ¬ Foot E' F' a) ∧ (∀ a ∈ f, Foot E1 F1 a ∨ H1 a = none) ∧
    RP (lcL bd et ee own (ds.drop i) acc E') (fun q => ∀ v H' F' f, Stp (cn X fa) H1 E1 F1 q.2 σ H' F' → Got (cn X fa) H1 E1 F1 q.2 F' H' (.lst q.1) v f → Q v H') PX,
    ⟨xs.length, by simp, Nat.zero_le _, E1, F1, [], [], [], hw, Stp.ext s1 (Ext.new hD), by simp [Owns], upd_same, by simp, fresh_foot s1 hD, (fun _ z => by cases z), (fun _ z => by cases z), r⟩, ?_⟩
  rintro i m H' ⟨rfl, hi, E', F', acc, vs, f, hw', s', o', hDl, nD, nFD, djf, newf, r'⟩
  have iv := st E' σ H' F' s'
  by_cases hlt : i < xs.length
  · have hx : xs[i]? = some xs[i] := List.getElem?_eq_getElem hlt
    have hd : ds[i]? = some (ds[i]'(by omega)) := List.getElem?_eq_getElem (by omega)
    obtain ⟨g1, g2⟩ := fd.go i H' xs[i] iv hx
    rw [drop_cons hd] at r'
    unfold lcL at r'
    refine .inr ⟨g1, fun H2 => ∃ E2 F2 acc vs f, wipeE E2 own = E2 ∧ Stp (cn X fa) H1 E1 F1 E2 σ H2 F2 ∧ Owns (cn X fa) H2 acc vs f ∧ H2 Dl = some (.lst vs) ∧ Dl ∉ f ∧ ¬ Foot E2 F2 Dl ∧ (∀ a ∈ f, ¬ Foot E2 F2 a) ∧ (∀ a ∈ f, Foot E1 F1 a ∨ H1 a = none) ∧
      RP (lcL bd et ee own (ds.drop (i + 1)) acc E2) (fun q => ∀ v H' F' f, Stp (cn X fa) H1 E1 F1 q.2 σ H' F' → Got (cn X fa) H1 E1 F1 q.2 F' H' (.lst q.1) v f → Q v H') PX, fun H2 z => ⟨xs.length - (i + 1), by omega, rfl, hlt, z⟩, fun x H2 y => ?_⟩
    obtain ⟨rfl, rfl⟩ := g2 x H2 y
    obtain ⟨E3, e3, r'⟩ := r'.bind.of
    have sw := sims_wipe s'.sim own
    rw [hw'] at sw
    refine hg E' E3 _ _ [] _ H2 F' _ e3 sw (owns_nil_get (fd.own H2 iv) hd hx) (fun _ z => by cases z) fun σ3 F3 s3 ft3 p3 => ?_
    have hσ : wipe σ3 own = wipe σ own := wipe_eq (by rw [p3.1, wipe_length]) fun j hj => p3.2 j (by simp [pinOf, hj])
    refine ⟨hσ, ?_⟩
    have st3 : Stp (cn X fa) H2 E' F' E3 σ3 H2 F3 := ⟨s3, Fr.refl, fun a z => .inl (by
      rcases ft3 a z with q | q
      · exact q
      · cases q)⟩
    have n3 : ∀ a, ¬ Foot E' F' a → ¬ Foot E3 F3 a := fun a n z => n (by
      rcases ft3 a z with q | q
      · exact q
      · cases q)
    refine ht E3 σ3 H2 F3 _ s3 ((noX_bind r').mono (fun p r' H3 F4 s4 => ?_) fun _ _ z => z)
    have hD3 : H3 Dl = some (.lst vs) := s4.fr Dl _ hDl (.inl (n3 Dl nFD))
    have nD4 : ¬ Foot p.2 F4 Dl := fun z => by
      rcases s4.ft Dl z with q | q
      · exact n3 Dl nFD q
      · rw [hDl] at q; cases q
    cases hp : p.1 with
    | false =>
      rw [hp] at r'
      have st5 := s'.trans (st3.trans s4)
      refine ⟨wipeE p.2 own, F4, acc, vs, f, wipeE_idem, ⟨sims_unwipe s4.sim hσ, st5.fr, fun a z => st5.ft a (foot_wipe z)⟩, s4.fr.owns o' fun a ha => n3 a (djf a ha), hD3, nD, fun z => nD4 (foot_wipe z), fun a ha z => ?_, newf, r'⟩
      rcases s4.ft a (foot_wipe z) with q | q
      · exact n3 a (djf a ha) q
      · obtain ⟨u, hu, _⟩ := owns_at acc vs f o' a ha
        rw [hu] at q; cases q
    | true =>
      rw [hp] at r'
      refine he p.2 σ3 H3 F4 _ s4.sim ((noX_bind r').mono (fun q r' v H5 F5 f' s5 g5 => ?_) fun _ _ z => z)
      split at r'
      · rename_i hlen
        have s45 := s4.trans s5
        have st6 := s'.trans (st3.trans s45)
        have g6 := g5.first s4
        have hD5 : H5 Dl = some (.lst vs) := s5.fr Dl _ hD3 (.inl nD4)
        have nD5 : ¬ Foot q.2 F5 Dl := fun z => by
          rcases s45.ft Dl z with k | k
          · exact n3 Dl nFD k
          · rw [hDl] at k; cases k
        have oacc : Owns (cn X fa) H5 acc vs f := s45.fr.owns o' fun a ha => n3 a (djf a ha)
        have nf' : ∀ a ∈ f', a ∉ f := fun a ha z => by
          rcases g6.new a ha with k | k
          · exact n3 a (djf a z) k
          · obtain ⟨u, hu, _⟩ := owns_at acc vs f o' a z
            rw [hu] at k; cases k
        have nDf' : Dl ∉ f' := fun z => by
          rcases g6.new Dl z with k | k
          · exact n3 Dl nFD k
          · rw [hDl] at k; cases k
        have im : ImmK H5 (upd H5 Dl (.lst (vs ++ [v]))) := fun a o e i => by
          rw [upd_ne (fun z => by rw [z, hD5] at e; cases e; exact i)]; exact e
        have lv := owns_len acc vs f oacc
        refine ⟨vs, hD5, lt_line (by rw [← lv]; exact hlen), wipeE q.2 own, F5, acc ++ [q.1], vs ++ [v], f ++ f', wipeE_idem, ⟨?_, ?_, fun a z => st6.ft a (foot_wipe z)⟩, ?_, upd_same, ?_, fun z => nD5 (foot_wipe z), ?_, ?_, r'⟩
        · exact sims_keep (sims_unwipe s5.sim hσ) im fun a z => upd_ne fun k => nD5 (k ▸ foot_wipe z)
        · intro a o e k
          rw [upd_ne (fun z => by rw [z, hD] at e; cases e)]
          exact st6.fr a o e k
        · exact owns_keep im _ _ _ (owns_snoc acc vs f q.1 v f' oacc g5.own nf') fun a ha => upd_ne fun k => by
            subst k
            rcases List.mem_append.mp ha with k | k
            · exact nD k
            · exact nDf' k
        · intro z
          rcases List.mem_append.mp z with k | k
          · exact nD k
          · exact nDf' k
        · intro a ha z
          have z := foot_wipe z
          rcases List.mem_append.mp ha with k | k
          · rcases s45.ft a z with w | w
            · exact n3 a (djf a k) w
            · obtain ⟨u, hu, _⟩ := owns_at acc vs f o' a k
              rw [hu] at w; cases w
          · exact g5.dj a k z
        · intro a ha
          rcases List.mem_append.mp ha with k | k
          · exact newf a k
          · rcases g6.new a k with w | w
            · rcases st3.ft a w with w | w
              · exact s'.ft a w
              · exact s'.fr.back w
            · exact s'.fr.back w
      · exact r'.elim
  · have e : i = xs.length := by omega
    rw [List.drop_of_length_le (by omega)] at r'
    refine .inl ⟨fd.stop i H' iv (by omega), r' (.ref Dl) H' F' (Dl :: f) s' ⟨own_mk_lst hDl o' nD, fun a ha => ?_, fun a ha => ?_⟩⟩
    · rcases List.mem_cons.mp ha with rfl | ha
      · exact nFD
      · exact djf a ha
    · rcases List.mem_cons.mp ha with rfl | ha
      · exact .inr hD
      · exact newf a ha
/-- a comprehension -/
theorem se_lc {elt tg iter : Expr} {ifs : List Expr} {scope : Scope} {own : List (Str × Nat)} {pos : Pos} {wi : TI} {g : TG} {tt : TT} {te : TE} {ev : Env → Res (List D × Env)} {bd : D → Env → Option Env} {et : Env → Res (Bool × Env)} {ee : Env → Res (D × Env)} (hc : X.calm = true) (hN : X.N.Nodup) (ok : BlkOk X.N X.env.scope scope own) (hi : SI X fa W tg iter wi ev)
    (hg : ∀ (s : Shared) (H : Hp) (C : Addr) (cl : List (Str × Addr)) (fp : List Addr), SG (X.blk s H scope (compEnvC scope cl C X.env) fp) fa (pinOf (ownIx own)) tg g bd) (ht : ∀ (s : Shared) (H : Hp) (C : Addr) (cl : List (Str × Addr)) (fp : List Addr), STs (X.blk s H scope (compEnvC scope cl C X.env) fp) fa ifs tt et)
    (he : ∀ (s : Shared) (H : Hp) (C : Addr) (cl : List (Str × Addr)) (fp : List Addr), SE (X.blk s H scope (compEnvC scope cl C X.env) fp) fa W0 elt te ee) (hs : ∀ x, foldedSetIterable iter X.env x = pure x := by intro _; rfl) :
    SE X fa W (.ListComp elt [⟨tg, iter, ifs, 0⟩] scope pos) (tLc wi g tt te (ownIx own)) (eLc ev bd et ee (ownIx own)) :=
  ⟨pe_lc hc hN hi.pi ok (fun s H C cl fp => (hg s H C cl fp).pg) (fun s H C cl fp => (ht s H C cl fp).pt) (fun s H C cl fp => (he s H C cl fp).pe) hs, fun E σ H F Q s r => by
    refine hi.ok E σ H F _ s (r.bind.mono (fun p r J H1 F1 xs Iv s1 fd st => ?_) fun _ _ z => z)
    have sw : Stp (cn X fa) H1 p.2 F1 (wipeE p.2 (ownIx own)) σ H1 F1 := ⟨⟨by rw [wipeE_len]; exact s1.sim.len, fun i d g => s1.sim.get i d (gv_wipeE g).1, fun i j d e n g g' => s1.sim.dj i j d e n (gv_wipeE g).1 (gv_wipeE g').1⟩, Fr.refl, fun a z => .inl (foot_wipe z)⟩
    refine lc_core0 (PX := PXof (cn X fa) W H E F σ) (hg {} H 0 [] []).ok (ht {} H 0 [] []).ok (he {} H 0 [] []).ok sw.sim wipeE_idem fd (fun E2 σ2 H2 F2 s2 => st E2 σ2 H2 F2 (sw.trans s2)) (r.bind.mono (fun q r v H2 F2 f s2 g2 => r v H2 F2 f (s1.trans (sw.trans s2)) ((g2.first sw).first s1)) fun _ _ z => z)⟩
end
end VS

set_option maxRecDepth 100000
set_option maxHeartbeats 4000000
namespace VS
open PySem L2
section
variable {X : Cx} {fa : Nat → Addr} {W : WX} {pin : Pin} {pos : Pos}

/-! ### stores -/
theorem owns_set {c : Cn} {H : Hp} : ∀ (l : List D) (xs : List V) (g0 : List Addr) (j : Nat) (d' : D) (x' : V) (f : List Addr), Owns c H l xs g0 → Own c H d' x' f → (∀ a ∈ f, a ∉ g0) → ∃ g', Owns c H (l.set j d') (xs.set j x') g' ∧ ∀ a ∈ g', a ∈ g0 ∨ a ∈ f
  | [], xs, g0, j, d', x', f, o, _, _ => by
    simp only [Owns] at o
    obtain ⟨rfl, rfl⟩ := o
    exact ⟨[], by simp [Owns], fun _ z => by cases z⟩
  | d :: r, xs, g0, 0, d', x', f, o, o', n => by
    simp only [Owns] at o
    obtain ⟨x, ys, g, h, rfl, o1, o2, dj, rfl⟩ := o
    refine ⟨f ++ h, ?_, fun a ha => ?_⟩
    · show Owns c H (d' :: r) (x' :: ys) _
      simp only [Owns]
      exact ⟨x', ys, f, h, rfl, o', o2, fun a ha z => n a ha (List.mem_append_right _ z), rfl⟩
    · rcases List.mem_append.mp ha with q | q
      · exact .inr q
      · exact .inl (List.mem_append_right _ q)
  | d :: r, xs, g0, j + 1, d', x', f, o, o', n => by
    simp only [Owns] at o
    obtain ⟨x, ys, g, h, rfl, o1, o2, dj, rfl⟩ := o
    obtain ⟨h', o3, k⟩ := owns_set r ys h j d' x' f o2 o' fun a ha z => n a ha (List.mem_append_right _ z)
    refine ⟨g ++ h', ?_, fun a ha => ?_⟩
    · show Owns c H (d :: r.set j d') (x :: ys.set j x') _
      simp only [Owns]
      refine ⟨x, ys.set j x', g, h', rfl, o1, o3, fun a ha z => ?_, rfl⟩
      rcases k a z with q | q
      · exact dj a ha q
      · exact n a q (List.mem_append_left _ ha)
    · rcases List.mem_append.mp ha with q | q
      · exact .inl (List.mem_append_left _ q)
      · rcases k a q with q | q
        · exact .inl (List.mem_append_right _ q)
        · exact .inr q
theorem lens_ext {c : Cn} {H H' : Hp} {d ds : D} {v w : V} {f g : List Addr} {js : List Nat} (L : Lens c H d v f js ds w g) (x : Ext H H') (o : Own c H d v f) : Lens c H' d v f js ds w g :=
  ⟨x.own L.own, L.sub, fun H2 ds' g' o' im kp nw => L.put H2 ds' g' o' (fun a o h i => im a o (x a o h) i) (fun a ha n => by
    obtain ⟨u, hu, _⟩ := own_at d v f o a ha
    rw [kp a ha n, hu, x a u hu]) nw⟩
/-- place[i] = e -/
def sSetL (r : Nat) (ep : Env → Option (List Nat)) (ei : Env → Option D) (ee : Env → Res (D × Env)) : Env → SR := fun E => (ee E).sr fun p => match (ep p.2).bind fun js => (gv p.2 r).bind fun d => match atD js d, ei p.2 with
    | some (.lst l), some (.int i) => (ixN l.length i).map fun j => p.2.set r (some (modD js (fun _ => .lst (l.set j p.1)) d))
    | _, _ => none with
  | some E' => .nx E'
  | none => .no
theorem ss_setL {r : Nat} {o i e : Expr} {to ti te : TE} {ep : Env → Option (List Nat)} {ei : Env → Option D} {ee : Env → Res (D × Env)} {st : Stmt} (ho : SL X fa r o to ep) (hi : SB X fa i ti ei) (he : SE X fa W e te ee) (hp : PE X e te → PE X o to → PE X i ti → PS X st (tAsg te (gSub to ti rSetL))) : SS X fa W pin st (tAsg te (gSub to ti rSetL)) (sSetL r ep ei ee) :=
  ⟨hp he.pe ho.pe hi.pe, fun E σ H F D s rr => by
    refine he.ok E σ H F _ s ((rp_sr rr).mono (fun p rr u H1 F1 f s1 g1 => ?_) fun _ _ z => z)
    split at rr
    · rename_i E' e1
      obtain ⟨js, e2, e1⟩ := Option.bind_eq_some_iff.mp e1
      obtain ⟨d, g, e1⟩ := Option.bind_eq_some_iff.mp e1
      split at e1
      · rename_i l i' hat hix
        obtain ⟨j, ej, rfl⟩ := Option.map_eq_some_iff.mp e1
        obtain ⟨v, hv, o0⟩ := s1.sim.get r d g
        refine ho.ok p.2 js d _ e2 g hat σ H1 F1 s1.sim v hv _ fun w H2 gg x1 L => ?_
        obtain ⟨a, xs, g0, rfl, h1, h2, na, rfl⟩ := own_lst L.own
        refine hi.ok p.2 _ hix σ H2 F1 _ (x1.sims s1.sim) fun iv H3 f3 x2 o3 n3 => ?_
        have x3 := x1.trans x2
        have s2 := x3.sims s1.sim
        have L3 := lens_ext L x2 (x1.own o0)
        have g3 := g1.later (Stp.ext s1.sim x3)
        have nn : ∀ b ∈ f, b ∉ a :: g0 := fun b hb z => g1.dj b hb ⟨r, d, g, L.sub b z⟩
        obtain ⟨g', o4, k4⟩ := owns_set l xs g0 j p.1 u f (x2.owns h2) g3.own fun b hb z => nn b hb (List.mem_cons_of_mem _ z)
        obtain ⟨F', s3, fr, ft⟩ := mut_lst (l' := l.set j p.1) (xs' := xs.set j u) (g0' := g') (fn := f) s2 g hv L3 (x2 _ _ h1) o4 (fun z => by
          rcases k4 a z with q | q
          · exact na q
          · exact nn a q List.mem_cons_self) k4 g3.dj
        refine ⟨a, xs, i', j, rfl, own_int o3, x2 _ _ h1, by rw [← owns_len l xs g0 h2]; exact ej, rr σ _ F' ⟨s3, (s1.fr.trans (Fr.of_ext x3 : Fr (Foot p.2 F1) H1 H3) s1.ft).trans fr s1.ft, fun b z => ?_⟩ Pn.refl⟩
        rcases ft b z with q | q
        · exact s1.ft b q
        · exact g1.new b q
      · cases e1
    · exact rr.elim⟩
/-- name[i] += e, ints -/
def pgL (K : PySem.W.Frag) : V → V → Hp → VK → Prop := fun o i H Q => ∃ p xs k v, o = .ref p ∧ i = .int k ∧ SqL K H p xs ∧ 0 ≤ k ∧ xs[k.toNat]? = some v ∧ Q v H
theorem pget_lst : PGet X (pgL X.K) := by
  intro pins s σ H o i ov iv Q I ro ri h
  obtain ⟨p, xs, k, v, rfl, rfl, hq, h0, hx, q⟩ := h
  cases ro
  obtain ⟨t, rfl⟩ := ri
  obtain ⟨its, r, pl, hz⟩ := I.list hq
  obtain ⟨w, ew, rw'⟩ := r.get hx
  have hl := r.length
  have hn := line63
  have hk : k.toNat < xs.length := (List.getElem?_eq_some_iff.mp hx).1
  exact PySem.wpAny_getItem_list pl.isList h0 (by omega) (by simpa using ew) ⟨v, H, I, rw', q⟩
def sAugL (r : Nat) (f : Int → Int → Int) (ei : Env → Option D) (ee : Env → Option D) : Env → SR := fun E => match gv E r, ei E, ee E with
  | some (.lst l), some (.int i), some (.int b) => if 0 ≤ i then (match l[i.toNat]? with
    | some (.int a) => .nx (E.set r (some (.lst (l.set i.toNat (.int (f a b))))))
    | _ => .no) else .no
  | _, _, _ => .no
theorem ss_augL (r : Nat) {f : Int → Int → Int} {o i e : Expr} {ti te : TE} {ei ee : Env → Option D} {st : Stmt} (ho : PE X o (tVar r)) (hi : SB X fa i ti ei) (he : SB X fa e te ee) (hp : PE X o (tVar r) → PE X i ti → PE X e te → PS X st (tAugS (tVar r) ti te (pgL X.K) (ipI f) rSetL)) : SS X fa W pin st (tAugS (tVar r) ti te (pgL X.K) (ipI f) rSetL) (sAugL r f ei ee) :=
  ⟨hp ho hi.pe he.pe, fun E σ H F D s rr => by
    unfold sAugL at rr
    split at rr
    · rename_i l i' b g e1 e2
      split at rr
      · rename_i h0
        split at rr
        · rename_i a0 ea
          obtain ⟨v, hv, o0⟩ := s.get r _ g
          refine ⟨v, hv, hi.ok E _ e1 σ H F _ s fun iv H1 f1 x1 o1 n1 => ?_⟩
          obtain ⟨a, xs, g0, rfl, h1, h2, na, ef⟩ := own_lst (x1.own o0)
          obtain ⟨x, g', ex, ox, sx⟩ := owns_get l xs g0 _ _ h2 ea
          refine ⟨a, xs, i', x, rfl, own_int o1, SqL.of h1, h0, ex, he.ok E _ e2 σ H1 F _ (x1.sims s) fun w H2 f2 x2 o2 n2 => ⟨a0, b, own_int ox, own_int o2, ?_⟩⟩
          have hlt : i'.toNat < xs.length := (List.getElem?_eq_some_iff.mp ex).1
          have hix : ixN xs.length i' = some i'.toNat := by
            unfold ixN
            rw [if_pos h0, if_pos (by omega)]
          have x3 := x1.trans x2
          have L := lens_nil (x3.own o0)
          rw [ef] at L
          obtain ⟨g'', o4, k4⟩ := owns_set l xs g0 i'.toNat (.int (f a0 b)) (.int (f a0 b)) [] (x2.owns h2) own_mk_int fun _ z => by cases z
          obtain ⟨F', s3, fr, ft⟩ := mut_lst (js := []) (l' := l.set i'.toNat (.int (f a0 b))) (xs' := xs.set i'.toNat (.int (f a0 b))) (g0' := g'') (fn := []) (x3.sims s) g hv (by rw [ef]; exact L) (x2 _ _ h1) o4 (fun z => by
            rcases k4 a z with q | q
            · exact na q
            · cases q) k4 fun _ z => by cases z
          refine ⟨a, xs, i', i'.toNat, rfl, own_int o1, x2 _ _ h1, hix, rr σ _ F' ⟨s3, (Fr.of_ext x3 : Fr (Foot E F) H H2).trans fr (fun _ z => .inl z), fun b z => ?_⟩ Pn.refl⟩
          rcases ft b z with q | q
          · exact .inl q
          · cases q
        · exact rr.elim
      · exact rr.elim
    · exact rr.elim⟩
/-- name += e, ints -/
def sAug (pin : Pin) (r : Nat) (f : Int → Int → Int) (ee : Env → Res (D × Env)) : Env → SR := fun E => match gv E r with
  | some (.int a) => (ee E).sr fun p => match p.1 with
    | .int b => if pin r then .no else .nx (p.2.set r (some (.int (f a b))))
    | _ => .no
  | _ => .no
theorem ss_aug (r : Nat) {f : Int → Int → Int} {e : Expr} {te : TE} {ee : Env → Res (D × Env)} {st : Stmt} (he : SE X fa W e te ee) (hp : PE X e te → PS X st (tAug r te (ipI f))) : SS X fa W pin st (tAug r te (ipI f)) (sAug pin r f ee) :=
  ⟨hp he.pe, fun E σ H F D s rr => by
    unfold sAug at rr
    split at rr
    · rename_i a g
      obtain ⟨v, hv, o0⟩ := s.get r _ g
      refine ⟨v, hv, he.ok E σ H F _ s ((rp_sr rr).mono (fun p rr u H1 F1 f1 s1 g1 => ?_) fun _ _ z => z)⟩
      have o := g1.own
      split at rr
      · rename_i b eb
        rw [eb] at o
        split at rr
        · exact rr.elim
        · rename_i hpin
          exact ⟨a, b, own_int o0, own_int o, rr _ H1 _ ⟨sims_put s1.sim own_mk_int fun _ z => (by cases z), s1.fr, fun x z => by
            rcases foot_put z with q | q
            · exact s1.ft x q
            · cases q⟩ (pn_set (by simpa using hpin))⟩
      · exact rr.elim
    · exact rr.elim⟩

/-! ### methods of lists -/
def eMeth (r : Nat) (m : List D → D → Option (D × List D)) (ee : Env → Res (D × Env)) : Env → Res (D × Env) := fun E => match gv E r with
  | some (.lst _) => (ee E).bind fun p => match gv p.2 r with
    | some (.lst l) => Res.of ((m l p.1).map fun q => (q.1, p.2.set r (some (.lst q.2))))
    | _ => .no
  | _ => .no
/-- what a list's method does: the answer a pure thing, or one of the argument's; the items pure -/
def MethOk (c : Cn) (ru : V → List V → Hp → VK → Prop) (m : List D → D → Option (D × List D)) : Prop :=
  ∀ (a : Addr) (xs : List V) (l l' : List D) (y z : D) (u : V) (f : List Addr) (H : Hp) (Q : VK), H a = some (.lst xs) → Owns c H l xs [] → Own c H y u f → a ∉ f → m l y = some (z, l') →
    (∀ v xs', Own c H z v [] → Owns c H l' xs' [] → Q v (upd H a (.lst xs'))) → ru (.ref a) [u] H Q
theorem se_meth (r : Nat) {ru : V → List V → Hp → VK → Prop} {m : List D → D → Option (D × List D)} {nm : Str} {o e : Expr} {te : TE} {ee : Env → Res (D × Env)} {apos cpos : Pos} (hm : MethOk (cn X fa) ru m) (hpu : ∀ l y q, m l y = some q → pures l = true) (ho : PE X o (tVar r)) (he : SE X fa W e te ee)
    (hp : PE X o (tVar r) → PE X e te → PE X (.Call (.Attribute o nm apos) [e] [] cpos) (tBM X.K "list" ru (tVar r) (tCons te tNil))) : SE X fa W (.Call (.Attribute o nm apos) [e] [] cpos) (tBM X.K "list" ru (tVar r) (tCons te tNil)) (eMeth r m ee) :=
  ⟨hp ho he.pe, fun E σ H F Q s rr => by
    unfold eMeth at rr
    split at rr
    · rename_i l0 g0
      obtain ⟨w, hw, o0⟩ := s.get r _ g0
      refine ⟨w, hw, ?_, ?_⟩
      · obtain ⟨a, xs, _, rfl, h1, _⟩ := own_lst o0
        exact .inl ⟨rfl, xs, SqL.of h1⟩
      · refine he.ok E σ H F _ s (rr.bind.mono (fun p rr u H2 F2 f s2 g2 => ?_) fun _ _ z => z)
        split at rr
        · rename_i l g3
          obtain ⟨q', e1, rr⟩ := rr.of
          obtain ⟨q, e2, rfl⟩ := Option.map_eq_some_iff.mp e1
          have o := sims_own s2.sim g3 hw
          have L := lens_nil o
          obtain ⟨a, xs, gg, rfl, h1, h2, na, ef⟩ := own_lst o
          have h2 := owns_nil h2 (hpu l p.1 q e2)
          have naf : a ∉ f := fun z => g2.dj a z ⟨r, _, g3, by rw [ef]; exact List.mem_cons_self⟩
          refine hm a xs l q.2 p.1 q.1 u f H2 Q h1 h2 g2.own naf e2 fun v xs' ov ol => ?_
          obtain ⟨F', s1, fr, ft⟩ := mut_lst (js := []) (l' := q.2) (xs' := xs') (g0' := []) (fn := []) s2.sim g3 hw (by rw [ef] at L; rw [ef]; exact L) h1 ol (fun z => by cases z) (fun _ z => by cases z) fun _ z => by cases z
          refine rr v _ F' [] ⟨s1, s2.fr.trans fr s2.ft, fun b z => ?_⟩ ⟨own_keep fr.imm _ _ _ ov fun _ z => (by cases z), fun _ z => (by cases z), fun _ z => (by cases z)⟩
          rcases ft b z with k | k
          · exact s2.ft b k
          · cases k
        · exact rr.elim
    · exact rr.elim⟩
def mPopAt (l : List D) (y : D) : Option (D × List D) := match y with
  | .int i => if pures l && decide (0 ≤ i) && decide (i < 1000000) then (l[i.toNat]?).map fun d => (d, l.eraseIdx i.toNat) else none
  | _ => none
theorem pures_all : ∀ {l : List D}, pures l = true ↔ ∀ d ∈ l, d.pure = true
  | [] => by simp [pures]
  | d :: r => by simp [pures, pures_all (l := r)]
theorem owns_eq_all {c : Cn} {H : Hp} {l l' : List D} {xs xs' : List V} (o : Owns c H l xs []) (hl : l'.length = xs'.length) (h : ∀ (i : Nat) (d : D) (x : V), l'[i]? = some d → xs'[i]? = some x → ∃ j : Nat, l[j]? = some d ∧ xs[j]? = some x) : Owns c H l' xs' [] :=
  owns_of_all l' xs' hl fun i d x h1 h2 => by
    obtain ⟨j, e1, e2⟩ := h i d x h1 h2
    exact owns_nil_get o e1 e2
theorem ok_popAt {c : Cn} : MethOk c rPopAt mPopAt := by
  intro a xs l l' y z u f H Q h1 o oy na hm k
  unfold mPopAt at hm
  split at hm
  · rename_i i
    split at hm
    · rename_i q
      simp only [Bool.and_eq_true, decide_eq_true_eq] at q
      obtain ⟨d, e1, e2⟩ := Option.map_eq_some_iff.mp hm
      cases e2
      obtain ⟨x, g, e3, e4, e5⟩ := owns_get l xs [] _ z o e1
      have hlt : i.toNat < xs.length := (List.getElem?_eq_some_iff.mp e3).1
      have hl := owns_len l xs [] o
      have q0 : 0 ≤ i := q.1.2
      have q1 : i < 1000000 := q.2
      have hi : seqIndex? i xs.length = some i.toNat := by
        rw [seqIndex_of q0 (by omega)]
      refine ⟨a, xs, i, i.toNat, x, rfl, by rw [own_int oy], h1, by omega, by omega, hi, e3, k _ _ (owns_nil_get o e1 e3) ?_⟩
      refine owns_eq_all o (by rw [List.length_eraseIdx, List.length_eraseIdx]; simp [hlt, hl]) fun j d x h1 h2 => ?_
      rw [List.getElem?_eraseIdx] at h1 h2
      split at h1
      · rename_i hj
        rw [if_pos hj] at h2
        exact ⟨j, h1, h2⟩
      · rename_i hj
        rw [if_neg hj] at h2
        exact ⟨j + 1, h1, h2⟩
    · cases hm
  · cases hm
theorem pu_popAt (l : List D) (y : D) (q : D × List D) (h : mPopAt l y = some q) : pures l = true := by
  unfold mPopAt at h
  split at h
  · split at h
    · rename_i z
      simp only [Bool.and_eq_true] at z
      exact z.1.1
    · cases h
  · cases h
def mExt (l : List D) (y : D) : Option (D × List D) := match y with
  | .lst m => if pures l && pures m && decide (l.length + m.length ≤ LIM) then some (.non, l ++ m) else none
  | _ => none
theorem ok_ext {c : Cn} : MethOk c rExtend mExt := by
  intro a xs l l' y z u f H Q h1 o oy na hm k
  unfold mExt at hm
  split at hm
  · rename_i m
    split at hm
    · rename_i q
      simp only [Bool.and_eq_true, decide_eq_true_eq] at q
      cases hm
      obtain ⟨b, zs, g, rfl, h3, h4, nb, rfl⟩ := own_lst oy
      have h4 := owns_nil h4 q.1.2
      have e1 := owns_len l xs [] o
      have e2 := owns_len m zs [] h4
      have hL := lim_line
      exact ⟨a, b, xs, zs, rfl, rfl, h1, h3, by omega, k _ _ own_mk_non (owns_app l xs [] m zs [] o h4 fun _ z => by cases z)⟩
    · cases hm
  · cases hm
theorem pu_ext (l : List D) (y : D) (q : D × List D) (h : mExt l y = some q) : pures l = true := by
  unfold mExt at h
  split at h
  · split at h
    · rename_i z
      simp only [Bool.and_eq_true] at z
      exact z.1.1
    · cases h
  · cases h
/-- xs.index(e) -/
def idxOf (x : V) : List V → Nat → Option Nat
  | [], _ => none
  | y :: r, n => if eqV y x then some n else idxOf x r (n + 1)
theorem idxOf_ok {x : V} : ∀ {l : List V} {n k : Nat}, idxOf x l n = some k → ∃ j z, k = n + j ∧ l[j]? = some z ∧ eqV z x = true ∧ ∀ (m : Nat) (z' : V), m < j → l[m]? = some z' → eqV z' x = false
  | [], n, k, h => by cases h
  | y :: r, n, k, h => by
    unfold idxOf at h
    split at h
    · rename_i e
      cases h
      exact ⟨0, y, rfl, rfl, e, fun m z' hm => absurd hm (Nat.not_lt_zero m)⟩
    · rename_i e
      obtain ⟨j, z, e1, e2, e3, e4⟩ := idxOf_ok h
      refine ⟨j + 1, z, by omega, by simpa using e2, e3, fun m z' hm hz => ?_⟩
      cases m with
      | zero =>
        simp at hz
        subst hz
        simpa using e
      | succ m => exact e4 m z' (by omega) (by simpa using hz)
def oIndex (x y : D) : Option D := match x with
  | .lst l => if l.all D.flat && y.flat then (idxOf y.v (l.map D.v) 0).map fun k => .int (k : Nat) else none
  | _ => none
theorem sf_index {o e : Expr} {to te : TE} {eo ee : Env → Option D} {apos cpos : Pos} (ho : SB X fa o to eo) (he : SB X fa e te ee) (hp : PE X o to → PE X e te → PE X (.Call (.Attribute o "index" apos) [e] [] cpos) (tBM X.K "list" (rIndex X.K) to (tCons te tNil))) : SF X fa (.Call (.Attribute o "index" apos) [e] [] cpos) (tBM X.K "list" (rIndex X.K) to (tCons te tNil)) (b2 oIndex eo ee) :=
  ⟨hp ho.pe he.pe, fun E d g σ H F Q s k => by
    obtain ⟨x, e1, g⟩ := Option.bind_eq_some_iff.mp g
    obtain ⟨y, e2, g⟩ := Option.bind_eq_some_iff.mp g
    refine ho.ok E x e1 σ H F _ s fun v H1 f x1 o1 n1 => ?_
    unfold oIndex at g
    split at g
    · rename_i l _
      split at g
      · rename_i q
        rw [Bool.and_eq_true] at q
        obtain ⟨kk, ek, rfl⟩ := Option.map_eq_some_iff.mp g
        obtain ⟨a, xs, g0, rfl, h1, h2, na, ef⟩ := own_lst o1
        refine ⟨.inl ⟨rfl, xs, SqL.of h1⟩, he.ok E y e2 σ H1 F _ (x1.sims s) fun u H2 f' x2 o2 n2 => ?_⟩
        obtain ⟨j, z, ej, ez, e3, e4⟩ := idxOf_ok ek
        obtain ⟨f1, f2⟩ := owns_flat l xs g0 q.1 h2
        obtain ⟨f3, f4⟩ := own_flat q.2 o2
        refine ⟨a, xs, u, j, z, rfl, rfl, SqL.of (x2 _ _ h1), f4, f2, by rw [f1]; exact ez, by rw [f3]; exact e3, fun m z' hm hz => by rw [f3]; exact e4 m z' hm (by rw [← f1]; exact hz), ?_⟩
        have ej' : kk = j := by omega
        rw [← ej']
        exact k _ H2 [] (x1.trans x2) own_mk_int fun _ z => by cases z
      · cases g
    · cases g⟩

/-! ### a place that is walked: its slot is lent meanwhile -/
structure SIP (X : Cx) (fa : Nat → Addr) (r : Nat) (tg iter : Expr) (wi : TI) (ev : Env → Option (List D)) : Prop where
  pi : PI X tg iter wi
  ok : ∀ (E : Env) (ds : List D) (d : D), ev E = some ds → gv E r = some d → ∀ (σ : L2.St) (H : Hp) (F : Nat → List Addr) (R : It → Hp → Prop), Sims (cn X fa) H E σ F →
    (∀ J H' xs Iv, Ext H H' → Feeds (cn X fa) J ds xs Iv → (∀ E2 σ2 H2 F2, Stp (cn X fa) H' (E.set r none) F E2 σ2 H2 F2 → Iv H2) → R J H') → wi σ H R
def iPl (r : Nat) (ep : Env → Option (List Nat)) : Env → Option (List D) := fun E => (bPl r ep E).bind fun d => match d with
  | .lst l => if pures l then some l else none
  | _ => none
theorem si_pl {r : Nat} {tg l : Expr} {tl : TE} {ep : Env → Option (List Nat)} (h : SL X fa r l tl ep) : SIP X fa r tg l (iSeq X.K tl) (iPl r ep) :=
  ⟨pi_seq h.pe, fun E ds d e g σ H F R s k => by
    obtain ⟨x, e1, e2⟩ := Option.bind_eq_some_iff.mp e
    obtain ⟨js, e3, e1⟩ := Option.bind_eq_some_iff.mp e1
    obtain ⟨d', g', hat⟩ := Option.bind_eq_some_iff.mp e1
    rw [g] at g'
    cases g'
    split at e2
    · rename_i m
      split at e2
      · rename_i pm
        cases e2
        obtain ⟨v, hv, o⟩ := s.get r d g
        refine h.ok E js d _ e3 g hat σ H F s v hv _ fun w H1 gg x1 L => ?_
        obtain ⟨a, xs, g0, rfl, h1, h2, na, rfl⟩ := own_lst L.own
        have h2 := owns_nil h2 pm
        refine ⟨a, rfl, .inl ⟨⟨xs, SqL.of h1⟩, k _ H1 xs _ x1 feeds_lst fun E2 σ2 H2 F2 s2 => ⟨s2.fr a _ h1 (.inl fun z => foot_dropped (x1.sims s) g (L.sub a List.mem_cons_self) z), s2.fr.owns h2 fun _ z => by cases z⟩⟩⟩
      · cases e2
    · cases e2⟩
theorem restore {c : Cn} {H H2 : Hp} {E E2 : Env} {σ σ2 : L2.St} {F F2 : Nat → List Addr} {r : Nat} {d : D} {v : V} (s : Sims c H E σ F) (g : gv E r = some d) (hv : σ[r]? = some (some v)) (st : Stp c H (E.set r none) F E2 σ2 H2 F2) (hv2 : σ2[r]? = some (some v)) :
    Stp c H E F (E2.set r (some d)) σ2 H2 (fun j => if j = r then F r else F2 j) ∧ ∀ a, Foot (E2.set r (some d)) (fun j => if j = r then F r else F2 j) a → Foot E2 F2 a ∨ a ∈ F r := by
  have o := sims_own s g hv
  have o2 : Own c H2 d v (F r) := st.fr.own o fun a ha => foot_dropped s g ha
  have dj : ∀ a ∈ F r, ¬ Foot E2 F2 a := fun a ha z => by
    rcases st.ft a z with q | q
    · exact foot_dropped s g ha q
    · obtain ⟨u, hu, _⟩ := own_at d v _ o a ha
      rw [hu] at q; cases q
  have s2 := sims_put (i := r) st.sim o2 dj
  have eσ : σ2.set r (some v) = σ2 := by
    apply List.ext_getElem?
    intro k
    rw [List.getElem?_set]
    split
    · rename_i q
      subst q
      split
      · exact hv2.symm
      · rename_i q
        rw [List.getElem?_eq_none (by omega)]
    · rfl
  rw [eσ] at s2
  refine ⟨⟨s2, st.fr.mono fun x z => .inl (foot_drop z), fun a z => ?_⟩, fun a z => foot_put z⟩
  rcases foot_put z with q | q
  · rcases st.ft a q with q | q
    · exact .inl (foot_drop q)
    · exact .inr q
  · exact .inl ⟨r, d, g, q⟩
theorem got_restore {c : Cn} {H H2 : Hp} {E E2 : Env} {σ σ2 : L2.St} {F F2 : Nat → List Addr} {r : Nat} {d d' : D} {v v' : V} {f : List Addr} (s : Sims c H E σ F) (g : gv E r = some d) (hv : σ[r]? = some (some v)) (st : Stp c H (E.set r none) F E2 σ2 H2 F2) (hv2 : σ2[r]? = some (some v)) (gt : Got c H (E.set r none) F E2 F2 H2 d' v' f) :
    Got c H E F (E2.set r (some d)) (fun j => if j = r then F r else F2 j) H2 d' v' f :=
  ⟨gt.own, (fun a ha z => by
    rcases (restore s g hv st hv2).2 a z with q | q
    · exact gt.dj a ha q
    · rcases gt.new a ha with w | w
      · exact foot_dropped s g q w
      · obtain ⟨u, hu, _⟩ := own_at d v _ (sims_own s g hv) a q
        rw [hu] at w; cases w), fun a ha => by
    rcases gt.new a ha with q | q
    · exact .inl (foot_drop q)
    · exact .inr q⟩
def backS (r : Nat) (d : D) (x : SR) : SR := match x with
  | .nx E => .nx (E.set r (some d))
  | .bk E => .bk (E.set r (some d))
  | .ct E => .ct (E.set r (some d))
  | .rt y E => .rt y (E.set r (some d))
  | .exc y E => .exc y (E.set r (some d))
  | .no => .no
def pinAdd (pin : Pin) (r : Nat) : Pin := fun j => pin j || j == r
theorem pn_sub {pin : Pin} {r : Nat} {σ σ' : L2.St} (h : Pn (pinAdd pin r) σ σ') : Pn pin σ σ' := ⟨h.1, fun i hi => h.2 i (by simp [pinAdd, hi])⟩
theorem pn_at {pin : Pin} {r : Nat} {σ σ' : L2.St} (h : Pn (pinAdd pin r) σ σ') : σ'[r]? = σ[r]? := h.2 r (by simp [pinAdd])
theorem srok_back {c : Cn} {H : Hp} {E : Env} {σ : L2.St} {F : Nat → List Addr} {r : Nat} {d : D} {v : V} {D : Ends} {x : SR} (s : Sims c H E σ F) (g : gv E r = some d) (hv : σ[r]? = some (some v)) (h : SRok c W pin H E F σ D (backS r d x)) : SRok c W (pinAdd pin r) H (E.set r none) F σ D x := by
  cases x with
  | nx E' => exact fun σ' H' F' st p => h σ' H' _ (restore s g hv st ((pn_at p).trans hv)).1 (pn_sub p)
  | bk E' => exact fun σ' H' F' st p => h σ' H' _ (restore s g hv st ((pn_at p).trans hv)).1 (pn_sub p)
  | ct E' => exact fun σ' H' F' st p => h σ' H' _ (restore s g hv st ((pn_at p).trans hv)).1 (pn_sub p)
  | rt y E' => exact fun w σ' H' F' f st p gt => h w σ' H' _ f (restore s g hv st ((pn_at p).trans hv)).1 (pn_sub p) (got_restore s g hv st ((pn_at p).trans hv) gt)
  | exc y E' =>
    exact fun cls dd σ' H' F' st p xr nn => h cls dd σ' H' _ (restore s g hv st ((pn_at p).trans hv)).1 (pn_sub p) xr fun a e => by
      obtain ⟨n1, n2⟩ := nn a e
      have n3 : a ∉ F r := fun q => by
        rcases n2 with w | w
        · exact foot_dropped s g q w
        · obtain ⟨u, hu, _⟩ := own_at d v _ (sims_own s g hv) a q
          rw [hu] at w; cases w
      refine ⟨fun z => ?_, ?_⟩
      · rcases (restore s g hv st ((pn_at p).trans hv)).2 a z with q | q
        · exact n1 q
        · exact n3 q
      · rcases n2 with q | q
        · exact .inl (foot_drop q)
        · exact .inr q
  | no => exact h
def sForP (r : Nat) (ep : Env → Option (List D)) (bd : D → Env → Option Env) (b : Env → SR) : Env → SR := fun E => match gv E r, ep E with
  | some d, some ds => backS r d (forL bd b ds (E.set r none))
  | _, _ => .no
theorem ss_forP {r : Nat} {tg iter : Expr} {body : List Stmt} {wi : TI} {g : TG} {tb : TS} {ep : Env → Option (List D)} {bd : D → Env → Option Env} {b : Env → SR} (hp : PassesOwn (model X.prog X.w) X.A X.env X.xe) (hc : X.calm = true) (hi : SIP X fa r tg iter wi ep) (hg : SG X fa (pinAdd pin r) tg g bd) (hb : SSs X fa W (pinAdd pin r) body tb b)
    (hs : ∀ x, foldedSetIterable iter X.env x = pure x := by intro _; rfl) : SS X fa W pin (.For tg iter body [] pos) (tFor wi g tb) (sForP r ep bd b) :=
  ⟨ps_for hp hc hi.pi hg.pg hb.ps hs, fun E σ H F D s rr => by
    unfold sForP at rr
    split at rr
    · rename_i d ds g0 e0
      obtain ⟨v, hv, o⟩ := s.get r d g0
      have r1 := srok_back s g0 hv rr
      refine hi.ok E ds d e0 g0 σ H F _ s fun J H1 xs Iv x1 fd st => ?_
      have s1 := sims_drop s r
      exact for_core hg hb (x1.sims s1) fd st (r1.first (Stp.ext s1 x1) Pn.refl)
    · exact rr.elim⟩
def eLcP (r : Nat) (ep : Env → Option (List D)) (bd : D → Env → Option Env) (et : Env → Res (Bool × Env)) (ee : Env → Res (D × Env)) (own : List Nat) : Env → Res (D × Env) := fun E => match gv E r, ep E with
  | some d, some ds => (noX (lcL bd et ee own ds [] (wipeE (E.set r none) own))).bind fun q => .ok (.lst q.1, q.2.set r (some d))
  | _, _ => .no
theorem lcL_exc {bd : D → Env → Option Env} {et : Env → Res (Bool × Env)} {ee : Env → Res (D × Env)} {own : List Nat} : ∀ (l acc : List D) (E : Env) (x : ExcV) (E' : Env), lcL bd et ee own l acc E ≠ .exc x E'
  | [], acc, E, x, E' => by simp [lcL]
  | d :: r, acc, E, x, E' => by
    intro h
    unfold lcL at h
    cases h1 : bd d E with
    | none => rw [h1] at h; cases h
    | some E1 =>
      rw [h1] at h
      simp only [Res.of_some, Res.bind_ok] at h
      cases h2 : et E1 with
      | ok p =>
        rw [h2] at h
        simp only [noX_ok, Res.bind_ok] at h
        split at h
        · cases h3 : ee p.2 with
          | ok q =>
            rw [h3] at h
            simp only [noX_ok, Res.bind_ok] at h
            split at h
            · exact lcL_exc _ _ _ _ _ h
            · cases h
          | exc _ _ => rw [h3] at h; cases h
          | no => rw [h3] at h; cases h
        · exact lcL_exc _ _ _ _ _ h
      | exc _ _ => rw [h2] at h; cases h
      | no => rw [h2] at h; cases h
theorem se_lcP {r : Nat} {elt tg iter : Expr} {ifs : List Expr} {scope : Scope} {own : List (Str × Nat)} {wi : TI} {g : TG} {tt : TT} {te : TE} {ep : Env → Option (List D)} {bd : D → Env → Option Env} {et : Env → Res (Bool × Env)} {ee : Env → Res (D × Env)} (hc : X.calm = true) (hN : X.N.Nodup) (ok : BlkOk X.N X.env.scope scope own) (hi : SIP X fa r tg iter wi ep)
    (hg : ∀ (s : Shared) (H : Hp) (C : Addr) (cl : List (Str × Addr)) (fp : List Addr), SG (X.blk s H scope (compEnvC scope cl C X.env) fp) fa (pinOf (ownIx own)) tg g bd) (ht : ∀ (s : Shared) (H : Hp) (C : Addr) (cl : List (Str × Addr)) (fp : List Addr), STs (X.blk s H scope (compEnvC scope cl C X.env) fp) fa ifs tt et)
    (he : ∀ (s : Shared) (H : Hp) (C : Addr) (cl : List (Str × Addr)) (fp : List Addr), SE (X.blk s H scope (compEnvC scope cl C X.env) fp) fa W0 elt te ee) (hs : ∀ x, foldedSetIterable iter X.env x = pure x := by intro _; rfl) :
    SE X fa W (.ListComp elt [⟨tg, iter, ifs, 0⟩] scope pos) (tLc wi g tt te (ownIx own)) (eLcP r ep bd et ee (ownIx own)) :=
  ⟨pe_lc hc hN hi.pi ok (fun s H C cl fp => (hg s H C cl fp).pg) (fun s H C cl fp => (ht s H C cl fp).pt) (fun s H C cl fp => (he s H C cl fp).pe) hs, fun E σ H F Q s rr => by
    unfold eLcP at rr
    split at rr
    · rename_i d ds g0 e0
      obtain ⟨v, hv, o⟩ := s.get r d g0
      refine hi.ok E ds d e0 g0 σ H F _ s fun J H1 xs Iv x1 fd st => ?_
      have sd := sims_drop s r
      have sw : Stp (cn X fa) H (E.set r none) F (wipeE (E.set r none) (ownIx own)) σ H1 F := ⟨⟨by rw [wipeE_len]; exact sd.len, fun i d g => (x1.sims sd).get i d (gv_wipeE g).1, fun i j d e n g g' => sd.dj i j d e n (gv_wipeE g).1 (gv_wipeE g').1⟩, Fr.of_ext x1, fun a z => .inl (foot_wipe z)⟩
      have sw1 : Stp (cn X fa) H1 (E.set r none) F (wipeE (E.set r none) (ownIx own)) σ H1 F := ⟨sw.sim, Fr.refl, fun a z => .inl (foot_wipe z)⟩
      refine lc_core0 (PX := fun _ _ => False) (hg {} H 0 [] []).ok (ht {} H 0 [] []).ok (he {} H 0 [] []).ok sw.sim wipeE_idem fd (fun E2 σ2 H2 F2 s2 => st E2 σ2 H2 F2 (sw1.trans s2)) ?_
      cases hr : lcL bd et ee (ownIx own) ds [] (wipeE (E.set r none) (ownIx own)) with
      | ok q =>
        rw [hr] at rr
        exact fun v' H2 F2 f s2 g2 => rr v' H2 _ f (restore s g0 hv (sw.trans s2) hv).1 (got_restore s g0 hv (sw.trans s2) hv (g2.first sw))
      | exc x E' => exact absurd hr (lcL_exc _ _ _ _ _)
      | no => rw [hr] at rr; exact rr.elim
    · exact rr.elim⟩
end
end VS

set_option maxRecDepth 100000
set_option maxHeartbeats 4000000
namespace VS
open PySem L2

/-! ### what a def promises -/
inductive FR where
  | ok (d : D) (o : List (Option D)) | exc (x : ExcV) (o : List (Option D)) | no
def FRok (c : Cn) (H : Hp) (vs : List V) (P : Addr → Prop) (Q : VK) (EX : XK) (r : FR) : Prop := match r with
  | .ok d o => ∀ v H' g F', Fr P H H' → Own c H' d v g → Sims c H' o (vs.map some) F' → (∀ a ∈ g, ¬ Foot o F' a) → (∀ a, a ∈ g ∨ Foot o F' a → P a ∨ H a = none) → Q v H'
  | .exc x o => ∀ cls dd H' F', Fr P H H' → Sims c H' o (vs.map some) F' → (∀ a, Foot o F' a → P a ∨ H a = none) → XRel c H' x cls dd → (∀ a, dd = some a → ¬ Foot o F' a ∧ (P a ∨ H a = none)) → EX cls dd H'
  | .no => False
def spV (c : Cn) (n : Nat) (f : List D → FR) : Sp := fun vs H Q EX => vs.length = n ∧ ∃ ds F0, Sims c H (ds.map some) (vs.map some) F0 ∧ FRok c H vs (Foot (ds.map some) F0) Q EX (f ds)
theorem spV_len {c : Cn} {n : Nat} {f : List D → FR} {ps : List Str} (h : ps.length = n) : ∀ vs H Q E, spV c n f vs H Q E → vs.length = ps.length := fun vs H Q E z => z.1.trans h.symm
def outs (pin : Pin) (np : Nat) (E : Env) : List (Option D) := (List.range np).map fun i => if pin i then gv E i else none
def mkF (np nl : Nat) (pin : Pin) (b : Env → SR) : List D → FR := fun ds => if ds.length = np then match b (ds.map some ++ List.replicate (nl - np) none) with
    | .rt d E => .ok d (outs pin np E)
    | .nx E => .ok .non (outs pin np E)
    | .exc x E => .exc x (outs pin np E)
    | _ => .no
  else .no
theorem gv_outs {pin : Pin} {np : Nat} {E : Env} {i : Nat} {d : D} (h : gv (outs pin np E) i = some d) : i < np ∧ pin i = true ∧ gv E i = some d := by
  rw [gv_some] at h
  unfold outs at h
  rw [List.getElem?_map] at h
  obtain ⟨k, e1, e2⟩ := Option.map_eq_some_iff.mp h
  obtain ⟨h1, h2⟩ := List.getElem?_eq_some_iff.mp e1
  rw [List.getElem_range] at h2
  subst h2
  rw [List.length_range] at h1
  split at e2
  · rename_i p
    exact ⟨h1, p, e2⟩
  · cases e2
theorem gv_app {A B : Env} {i : Nat} {d : D} (hB : ∀ x ∈ B, x = none) (h : gv (A ++ B) i = some d) : gv A i = some d := by
  rw [gv_some] at h ⊢
  by_cases l : i < A.length
  · rwa [List.getElem?_append_left l] at h
  · rw [List.getElem?_append_right (by omega)] at h
    have := hB _ (List.mem_of_getElem? h)
    cases this
section
variable {P : Program} {w : World} {K : PySem.W.Frag} {mg : Str → Option Value} {base : Heap} {fa : Nat → Addr}
theorem sims_start {c : Cn} {H : Hp} {ds : List D} {vs : List V} {F0 : Nat → List Addr} {N : List Str} (s : Sims c H (ds.map some) (vs.map some) F0) {np : Nat} (h1 : ds.length = np) (h2 : vs.length = np) : Sims c H (ds.map some ++ List.replicate (N.length - np) none) (L2.start N vs) F0 := by
  have hB : ∀ x ∈ (List.replicate (N.length - np) none : Env), x = none := fun x hx => (List.mem_replicate.mp hx).2
  refine ⟨?_, fun i d g => ?_, fun i j d e n g g' => s.dj i j d e n (gv_app hB g) (gv_app hB g')⟩
  · unfold L2.start
    rw [List.length_append, List.length_append, List.length_map, List.length_map, List.length_replicate, List.length_replicate, h1, h2]
  · obtain ⟨v, e1, e2⟩ := s.get i d (gv_app hB g)
    refine ⟨v, ?_, e2⟩
    unfold L2.start
    rw [List.getElem?_append_left (List.getElem?_eq_some_iff.mp e1).1]
    exact e1
theorem foot_start {ds : List D} {n : Nat} {F0 : Nat → List Addr} {a : Addr} (z : Foot (ds.map some ++ List.replicate n none) F0 a) : Foot (ds.map some) F0 a := by
  obtain ⟨i, d, g, ha⟩ := z
  exact ⟨i, d, gv_app (fun x hx => (List.mem_replicate.mp hx).2) g, ha⟩
theorem gv_app_left {A B : Env} {i : Nat} {d : D} (h : gv A i = some d) : gv (A ++ B) i = some d := by
  rw [gv_some] at h ⊢
  rw [List.getElem?_append_left (List.getElem?_eq_some_iff.mp h).1]
  exact h
theorem foot_start' {ds : List D} {n : Nat} {F0 : Nat → List Addr} {a : Addr} (z : Foot (ds.map some) F0 a) : Foot (ds.map some ++ List.replicate n none) F0 a := by
  obtain ⟨i, d, g, ha⟩ := z
  exact ⟨i, d, gv_app_left g, ha⟩
abbrev WE0 (E : XK) : WX := fun cls d _ H => E cls d H
/-- THE RULE for a def: its body's worth -/
theorem fn_vs {x qual : Str} {st : Stmt} {f : Addr} {fd : FuncData} {N ps : List Str} {k : Nat} {pin : Pin} {b : Env → SR} (F : Fun K x qual st f fd) (S : FnScope N ps (defScope st))
    (hb : ∀ (cdv : Value) (A : Around) (outer : List PySem.Env) (s : Shared) (H : Hp) (E : XK), Room k (A.deeper (PyProof.Rows.envOfC qual (defScope st) s.heap.objs.size f cdv)) →
      ∃ t, SSs (cxOf (L2.CX P w) P w K mg base N qual (defScope st) f cdv A outer s H E) fa (WE0 E) pin (defBody st) t b) : FnOk P w K mg base (L2.CX P w) (k + 1) f fd ps (spV ⟨K, fa⟩ ps.length (mkF ps.length N.length pin b)) := by
  refine F.okX S (spV_len rfl) (fun cdv A outer s H vs Q E hr hsp => ?_)
  obtain ⟨t, h⟩ := hb cdv A outer s H E hr
  obtain ⟨hl, ds, F0, s0, r⟩ := hsp
  refine ⟨t, h.ps, ?_⟩
  unfold mkF at r
  split at r
  · rename_i hd
    have s1 := sims_start (N := N) s0 hd hl
    have fP : ∀ {H' : Hp} {E' : Env} {σ' : L2.St} {F' : Nat → List Addr}, Stp (⟨K, fa⟩ : Cn) H (ds.map some ++ List.replicate (N.length - ps.length) none) F0 E' σ' H' F' → Fr (Foot (ds.map some) F0) H H' := fun {H' E' σ' F'} st a o e kk => st.fr a o e (by
      rcases kk with q | q
      · exact .inl fun z => q (foot_start z)
      · exact .inr q)
    have sO : ∀ {H' : Hp} {E' : Env} {σ' : L2.St} {F' : Nat → List Addr}, Stp (⟨K, fa⟩ : Cn) H (ds.map some ++ List.replicate (N.length - ps.length) none) F0 E' σ' H' F' → Pn pin (L2.start N vs) σ' → Sims (⟨K, fa⟩ : Cn) H' (outs pin ps.length E') (vs.map some) F' := fun {H' E' σ' F'} st p => ⟨by simp [outs, hl], fun i d g => by
      obtain ⟨g1, g2, g3⟩ := gv_outs g
      obtain ⟨v, e1, e2⟩ := st.sim.get i d g3
      refine ⟨v, ?_, e2⟩
      rw [p.2 i g2] at e1
      unfold L2.start at e1
      rw [List.getElem?_append_left (by simp; omega)] at e1
      exact e1, fun i j d e n g g' => st.sim.dj i j d e n (gv_outs g).2.2 (gv_outs g').2.2⟩
    have fO : ∀ {E' : Env} {F' : Nat → List Addr} {a : Addr}, Foot (outs pin ps.length E') F' a → Foot E' F' a := fun {E' F' a} ⟨i, d, g, ha⟩ => ⟨i, d, (gv_outs g).2.2, ha⟩
    refine h.ok _ _ H F0 _ s1 ?_
    have nn : ∀ {a : Addr}, Foot (ds.map some ++ List.replicate (N.length - ps.length) none) F0 a ∨ H a = none → Foot (ds.map some) F0 a ∨ H a = none := fun {a} z => z.imp foot_start id
    cases hbe : b (ds.map some ++ List.replicate (N.length - ps.length) none) with
    | nx E' =>
      rw [hbe] at r
      exact fun σ' H' F' st p => r .non H' [] F' (fP st) own_mk_non (sO st p) (fun _ z => by cases z) fun a z => by
        rcases z with z | z
        · cases z
        · exact nn (st.ft a (fO z))
    | rt d E' =>
      rw [hbe] at r
      exact fun v σ' H' F' g st p gt => r v H' g F' (fP st) gt.own (sO st p) (fun a ha z => gt.dj a ha (fO z)) fun a z => by
        rcases z with z | z
        · exact nn (gt.new a z)
        · exact nn (st.ft a (fO z))
    | exc x E' =>
      rw [hbe] at r
      exact fun cls dd σ' H' F' st p xr n => r cls dd H' F' (fP st) (sO st p) (fun a z => nn (st.ft a (fO z))) xr fun a e => ⟨fun z => (n a e).1 (fO z), nn (n a e).2⟩
    | bk E' => rw [hbe] at r; exact r.elim
    | ct E' => rw [hbe] at r; exact r.elim
    | no => rw [hbe] at r; exact r.elim
  · exact r.elim
end

/-! ### calls -/
section
variable {X : Cx} {fa : Nat → Addr} {W : WX}
theorem passW0 (σ : L2.St) : PassesAt (L2.CX X.prog X.w) X σ (WE W0 σ) := fun _ _ _ _ _ _ h => by
  obtain ⟨_, _, _, _, _, _, _, _, _, _, _, _, z⟩ := h
  exact z.elim
theorem owns_split {c : Cn} {H : Hp} : ∀ (l : List D) (xs : List V) (f : List Addr), Owns c H l xs f → ∃ F : Nat → List Addr, Sims c H (l.map some) (xs.map some) F ∧ ∀ a, Foot (l.map some) F a → a ∈ f
  | [], xs, f, o => by
    simp only [Owns] at o
    obtain ⟨rfl, rfl⟩ := o
    exact ⟨fun _ => [], ⟨rfl, fun i d g => by simp [gv] at g, fun i j d e n g => by simp [gv] at g⟩, fun a ⟨i, d, g, _⟩ => by simp [gv] at g⟩
  | d :: r, xs, f, o => by
    simp only [Owns] at o
    obtain ⟨x, ys, g, h, rfl, o1, o2, dj, rfl⟩ := o
    obtain ⟨F, s, ft⟩ := owns_split r ys h o2
    refine ⟨fun | 0 => g | i + 1 => F i, ⟨by simp [owns_len r ys h o2], fun i e ge => ?_, fun i j e e' n ge ge' a ha => ?_⟩, fun a ⟨i, e, ge, ha⟩ => ?_⟩
    · cases i with
      | zero =>
        simp at ge
        subst ge
        exact ⟨x, rfl, o1⟩
      | succ i =>
        obtain ⟨v, e1, e2⟩ := s.get i e (by simpa using ge)
        exact ⟨v, by simpa using e1, e2⟩
    · cases i with
      | zero =>
        cases j with
        | zero => exact absurd rfl n
        | succ j => exact fun z => dj a ha (ft a ⟨j, e', by simpa using ge', z⟩)
      | succ i =>
        cases j with
        | zero => exact fun z => dj a z (ft a ⟨i, e, by simpa using ge, ha⟩)
        | succ j => exact s.dj i j e e' (fun z => n (by rw [z])) (by simpa using ge) (by simpa using ge') a ha
    · cases i with
      | zero => exact List.mem_append_left _ ha
      | succ i => exact List.mem_append_right _ (ft a ⟨i, e, by simpa using ge, ha⟩)
/-- all arguments pure, nothing raised: a fresh thing -/
def fCall (f : List D → FR) (ea : Env → Option (List D)) : Env → Option D := fun E => (ea E).bind fun ds => if pures ds then match f ds with
    | .ok d _ => some d
    | _ => none
  else none
theorem sf_call {k n : Nat} {f : Addr} {fd : FuncData} {ps : List Str} {fn : List D → FR} {x : Str} {p pos : Pos} {e : Expr} {es : List Expr} {t : TA} {ea : Env → Option (List D)} (F : FnOk X.prog X.w X.K X.mg X.base (L2.CX X.prog X.w) k f fd ps (spV (cn X fa) n fn)) (hr : Room k X.A) (hm : X.mg x = some (.ref f)) (hk : PySem.W.keepIn X.K (.ref f) = true) (hb : Binds X.K fd ps [])
    (ha : SFs X fa (e :: es) t ea) (hn : (e :: es).length = n := by rfl) (hg : Gl X x := by rfl) (hdb : (x == ("__debug__" : Str)) = false := by decide) (he : starEach (e :: es) X.env = (false, eval e X.env) :: starEach es X.env := by rfl) (hpl : (backTo pos (starEach es X.env)).any (·.1) = false := by rfl) :
    SF X fa (.Call (.Name x p) (e :: es) [] pos) (tCallS (spV (cn X fa) n fn) (WE W0) t) (fCall fn ea) :=
  ⟨pe_callS F hr hg hm hk hb passW0 ha.pa hdb he hpl, fun E d g σ H F Q s kk => by
    obtain ⟨ds, e1, g⟩ := Option.bind_eq_some_iff.mp g
    split at g
    · rename_i pu
      refine ha.ok E ds e1 σ H F _ s fun vs H1 f x1 o1 n1 => ?_
      have o1 := owns_nil o1 pu
      obtain ⟨F0, s0, ft0⟩ := owns_split ds vs [] o1
      refine ⟨by rw [← owns_len ds vs [] o1, ha.len E ds e1]; exact hn, ds, F0, s0, ?_⟩
      split at g
      · rename_i d' o hf
        cases g
        rw [hf]
        exact fun v H2 g' F' fr ow sm dj nw => kk v H2 g' (fun a o e => fr a o (x1 a o e) (.inl fun z => by cases ft0 a z)) ow fun a ha => by
          rcases nw a (.inl ha) with q | q
          · cases ft0 a q
          · exact x1.back q
      · cases g
    · cases g⟩
/-- arguments: owned, or a lent slot -/
inductive Arg where
  | o (d : D) | l (r : Nat)
structure ArgsOk (c : Cn) (H : Hp) (E : Env) (F : Nat → List Addr) (E' : Env) (F' : Nat → List Addr) (H' : Hp) (σ : L2.St) (as : List Arg) (vs : List V) (G : Nat → List Addr) : Prop where
  len : as.length = vs.length
  own : ∀ (i : Nat) (d : D), as[i]? = some (.o d) → ∃ v, vs[i]? = some v ∧ Own c H' d v (G i)
  dj : ∀ (i j : Nat) (d e : D), i ≠ j → as[i]? = some (.o d) → as[j]? = some (.o e) → ∀ a ∈ G i, a ∉ G j
  djE : ∀ (i : Nat) (d : D), as[i]? = some (.o d) → ∀ a ∈ G i, ¬ Foot E' F' a
  new : ∀ (i : Nat) (d : D), as[i]? = some (.o d) → ∀ a ∈ G i, Foot E F a ∨ H a = none
  lent : ∀ (i r : Nat), as[i]? = some (.l r) → ∃ v, vs[i]? = some v ∧ σ[r]? = some (some v)
structure SAs (X : Cx) (fa : Nat → Addr) (W : WX) (es : List Expr) (t : TA) (ev : Env → Res (List Arg × Env)) : Prop where
  pa : PA X es t
  len : ∀ E as E', ev E = .ok (as, E') → as.length = es.length
  ok : ∀ (E : Env) (σ : L2.St) (H : Hp) (F : Nat → List Addr) (Q : List V → Hp → Prop), Sims (cn X fa) H E σ F →
    RP (ev E) (fun p => ∀ vs H' F' G, Stp (cn X fa) H E F p.2 σ H' F' → ArgsOk (cn X fa) H E F p.2 F' H' σ p.1 vs G → Q vs H') (PXof (cn X fa) W H E F σ) → t σ H Q
def aNil : Env → Res (List Arg × Env) := fun E => .ok ([], E)
def aOwn (ea : Env → Res (D × Env)) (er : Env → Res (List Arg × Env)) : Env → Res (List Arg × Env) := fun E => (ea E).bind fun p => (er p.2).bind fun q => .ok (.o p.1 :: q.1, q.2)
def aLend (r : Nat) (er : Env → Res (List Arg × Env)) : Env → Res (List Arg × Env) := fun E => match gv E r with
  | some _ => (er E).bind fun q => .ok (.l r :: q.1, q.2)
  | none => .no
theorem sas_nil : SAs X fa W [] tNil aNil := ⟨pa_nil, fun E ds E' h => by cases h; rfl, fun E σ H F Q s r => r [] H F (fun _ => []) (Stp.refl s) ⟨rfl, fun i d h => by simp at h, fun i j d e n h => by simp at h, fun i d h => by simp at h, fun i d h => by simp at h, fun i d h => by simp at h⟩⟩
theorem sas_own {e : Expr} {es : List Expr} {ta : TE} {t : TA} {ea : Env → Res (D × Env)} {er : Env → Res (List Arg × Env)} (ha : SE X fa W e ta ea) (hr : SAs X fa W es t er) (hs : starEach (e :: es) X.env = (false, eval e X.env) :: starEach es X.env := by rfl) : SAs X fa W (e :: es) (tCons ta t) (aOwn ea er) :=
  ⟨pa_cons ha.pe hr.pa hs, fun E ds E' h => by
    obtain ⟨p, e1, h⟩ := res_bind_ok h
    obtain ⟨q, e2, h⟩ := res_bind_ok h
    cases h
    rw [List.length_cons, List.length_cons, hr.len p.2 q.1 q.2 e2], fun E σ H F Q s r => by
    refine ha.ok E σ H F _ s (r.bind.mono (fun p r v H1 F1 f s1 g1 => ?_) fun _ _ z => z)
    refine hr.ok p.2 σ H1 F1 _ s1.sim (r.bind.mono (fun q r vs H2 F2 G s2 A => ?_) fun _ _ z => z.first s1)
    have g3 := g1.later s2
    have key : ∀ (i : Nat) (d : D), q.1[i]? = some (.o d) → ∀ a ∈ G i, a ∉ f := fun i d h a ha z => by
      rcases A.new i d h a ha with k | k
      · exact g1.dj a z k
      · obtain ⟨u, hu, _⟩ := own_at _ _ _ g1.own a z
        rw [hu] at k; cases k
    refine r (v :: vs) H2 F2 (fun | 0 => f | i + 1 => G i) (s1.trans s2) ⟨by simp [A.len], fun i d h => ?_, fun i j d e n h h' a ha => ?_, fun i d h a ha => ?_, fun i d h a ha => ?_, fun i r h => ?_⟩
    · cases i with
      | zero =>
        simp at h
        subst h
        exact ⟨v, rfl, g3.own⟩
      | succ i =>
        obtain ⟨w, e1, e2⟩ := A.own i d (by simpa using h)
        exact ⟨w, by simpa using e1, e2⟩
    · cases i with
      | zero =>
        cases j with
        | zero => exact absurd rfl n
        | succ j => exact fun z => key j e (by simpa using h') a z ha
      | succ i =>
        cases j with
        | zero => exact fun z => key i d (by simpa using h) a ha z
        | succ j => exact A.dj i j d e (fun z => n (by rw [z])) (by simpa using h) (by simpa using h') a ha
    · cases i with
      | zero => exact g3.dj a ha
      | succ i => exact A.djE i d (by simpa using h) a ha
    · cases i with
      | zero => exact g1.new a ha
      | succ i =>
        rcases A.new i d (by simpa using h) a ha with k | k
        · exact s1.ft a k
        · exact s1.fr.back k
    · cases i with
      | zero => simp at h
      | succ i =>
        obtain ⟨w, e1, e2⟩ := A.lent i r (by simpa using h)
        exact ⟨w, by simpa using e1, e2⟩⟩
theorem sas_lend (r : Nat) {es : List Expr} {t : TA} {er : Env → Res (List Arg × Env)} {e : Expr} (he : PE X e (tVar r)) (hr : SAs X fa W es t er) (hs : starEach (e :: es) X.env = (false, eval e X.env) :: starEach es X.env := by rfl) : SAs X fa W (e :: es) (tCons (tVar r) t) (aLend r er) :=
  ⟨pa_cons he hr.pa hs, (fun E ds E' h => by
    unfold aLend at h
    split at h
    · obtain ⟨q, e2, h⟩ := res_bind_ok h
      cases h
      rw [List.length_cons, List.length_cons, hr.len E q.1 q.2 e2]
    · cases h), fun E σ H F Q s rr => by
    unfold aLend at rr
    split at rr
    · rename_i d0 g0
      obtain ⟨v, hv, o⟩ := s.get r d0 g0
      refine ⟨v, hv, hr.ok E σ H F _ s (rr.bind.mono (fun q rr vs H2 F2 G s2 A => ?_) fun _ _ z => z)⟩
      refine rr (v :: vs) H2 F2 (fun | 0 => [] | i + 1 => G i) s2 ⟨by simp [A.len], fun i d h => ?_, fun i j d e n h h' a ha => ?_, fun i d h a ha => ?_, fun i d h a ha => ?_, fun i r' h => ?_⟩
      · cases i with
        | zero => simp at h
        | succ i =>
          obtain ⟨w, e1, e2⟩ := A.own i d (by simpa using h)
          exact ⟨w, by simpa using e1, e2⟩
      · cases i with
        | zero => simp at h
        | succ i =>
          cases j with
          | zero => simp at h'
          | succ j => exact A.dj i j d e (fun z => n (by rw [z])) (by simpa using h) (by simpa using h') a ha
      · cases i with
        | zero => simp at h
        | succ i => exact A.djE i d (by simpa using h) a ha
      · cases i with
        | zero => simp at h
        | succ i => exact A.new i d (by simpa using h) a ha
      · cases i with
        | zero =>
          simp at h
          subst h
          exact ⟨v, rfl, hv⟩
        | succ i =>
          obtain ⟨w, e1, e2⟩ := A.lent i r' (by simpa using h)
          exact ⟨w, by simpa using e1, e2⟩
    · exact rr.elim⟩
def isL (i : Nat) : Arg → Bool
  | .l j => j == i
  | _ => false
def uniqA : List Arg → Bool
  | [] => true
  | .o _ :: r => uniqA r
  | .l i :: r => !(r.any (isL i)) && uniqA r
def lentOf : List Arg → List Nat
  | [] => []
  | .o _ :: r => lentOf r
  | .l i :: r => i :: lentOf r
def valsA : List Arg → Env → Option (List D)
  | [], _ => some []
  | .o d :: r, E => (valsA r E).map (d :: ·)
  | .l i :: r, E => (gv E i).bind fun d => (valsA r E).map (d :: ·)
def giveA : List Arg → List (Option D) → Env → Env
  | .l i :: r, o :: os, E => giveA r os (E.set i o)
  | .o _ :: r, _ :: os, E => giveA r os E
  | _, _, E => E
theorem uniq_ok : ∀ {as : List Arg}, uniqA as = true → ∀ (i j r : Nat), as[i]? = some (.l r) → as[j]? = some (.l r) → i = j
  | [], _, i, j, r, h, _ => by simp at h
  | .o d :: as, u, i, j, r, h, h' => by
    cases i with
    | zero => simp at h
    | succ i =>
      cases j with
      | zero => simp at h'
      | succ j => rw [uniq_ok (as := as) u i j r (by simpa using h) (by simpa using h')]
  | .l k :: as, u, i, j, r, h, h' => by
    simp only [uniqA, Bool.and_eq_true, Bool.not_eq_true'] at u
    have no : ∀ m : Nat, as[m]? = some (.l k) → False := fun m hm => by
      have := List.any_eq_true.mpr ⟨_, List.mem_of_getElem? hm, (by simp [isL] : isL k (.l k) = true)⟩
      rw [u.1] at this; cases this
    cases i with
    | zero =>
      simp at h
      subst h
      cases j with
      | zero => rfl
      | succ j => exact (no j (by simpa using h')).elim
    | succ i =>
      cases j with
      | zero =>
        simp at h'
        subst h'
        exact (no i (by simpa using h)).elim
      | succ j => rw [uniq_ok (as := as) u.2 i j r (by simpa using h) (by simpa using h')]
theorem vals_get : ∀ {as : List Arg} {E : Env} {ds : List D}, valsA as E = some ds → as.length = ds.length ∧ ∀ (i : Nat) (d : D), ds[i]? = some d → as[i]? = some (.o d) ∨ ∃ r, as[i]? = some (.l r) ∧ gv E r = some d
  | [], E, ds, h => by cases h; exact ⟨rfl, fun i d h => by simp at h⟩
  | .o x :: as, E, ds, h => by
    obtain ⟨r, e1, rfl⟩ := Option.map_eq_some_iff.mp h
    obtain ⟨hl, k⟩ := vals_get e1
    refine ⟨by simp [hl], fun i d h => ?_⟩
    cases i with
    | zero => simp at h; subst h; exact .inl rfl
    | succ i => simpa using k i d (by simpa using h)
  | .l x :: as, E, ds, h => by
    obtain ⟨y, e0, h⟩ := Option.bind_eq_some_iff.mp h
    obtain ⟨r, e1, rfl⟩ := Option.map_eq_some_iff.mp h
    obtain ⟨hl, k⟩ := vals_get e1
    refine ⟨by simp [hl], fun i d h => ?_⟩
    cases i with
    | zero => simp at h; subst h; exact .inr ⟨x, rfl, e0⟩
    | succ i => simpa using k i d (by simpa using h)
theorem lent_mem : ∀ {as : List Arg} {r : Nat}, r ∈ lentOf as → ∃ i : Nat, as[i]? = some (.l r)
  | [], r, h => by cases h
  | .o _ :: as, r, h => by
    obtain ⟨i, e⟩ := lent_mem (as := as) h
    exact ⟨i + 1, by simpa using e⟩
  | .l k :: as, r, h => by
    rcases List.mem_cons.mp h with rfl | h
    · exact ⟨0, rfl⟩
    · obtain ⟨i, e⟩ := lent_mem (as := as) h
      exact ⟨i + 1, by simpa using e⟩
theorem mem_lent : ∀ {as : List Arg} {r i : Nat}, as[i]? = some (.l r) → r ∈ lentOf as
  | [], r, i, h => by simp at h
  | .o _ :: as, r, i, h => by
    cases i with
    | zero => simp at h
    | succ i => exact mem_lent (as := as) (i := i) (by simpa using h)
  | .l k :: as, r, i, h => by
    cases i with
    | zero => simp at h; subst h; exact List.mem_cons_self
    | succ i => exact List.mem_cons_of_mem _ (mem_lent (as := as) (i := i) (by simpa using h))
theorem give_gv : ∀ {as : List Arg} {os : List (Option D)} {E : Env} {j : Nat} {d : D}, gv (giveA as os E) j = some d → (∃ i : Nat, as[i]? = some (.l j) ∧ os[i]? = some (some d)) ∨ gv E j = some d
  | [], os, E, j, d, h => by
    cases os <;> exact .inr h
  | .o x :: as, [], E, j, d, h => .inr h
  | .l x :: as, [], E, j, d, h => .inr h
  | .o x :: as, o :: os, E, j, d, h => by
    rcases give_gv (as := as) (os := os) h with ⟨i, e1, e2⟩ | h
    · exact .inl ⟨i + 1, by simpa using e1, by simpa using e2⟩
    · exact .inr h
  | .l x :: as, o :: os, E, j, d, h => by
    rcases give_gv (as := as) (os := os) h with ⟨i, e1, e2⟩ | h
    · exact .inl ⟨i + 1, by simpa using e1, by simpa using e2⟩
    · cases o with
      | none => exact .inr (gv_set_none h).1
      | some y =>
        rcases gv_set h with ⟨rfl, rfl⟩ | ⟨_, h⟩
        · exact .inl ⟨0, rfl, rfl⟩
        · exact .inr h
theorem give_len : ∀ {as : List Arg} {os : List (Option D)} {E : Env}, (giveA as os E).length = E.length
  | [], os, E => by cases os <;> rfl
  | .o x :: as, [], E => rfl
  | .l x :: as, [], E => rfl
  | .o x :: as, o :: os, E => give_len (as := as) (os := os)
  | .l x :: as, o :: os, E => by
    show (giveA as os (E.set x o)).length = _
    rw [give_len (as := as) (os := os), List.length_set]
def eCall (f : List D → FR) (ea : Env → Res (List Arg × Env)) : Env → Res (D × Env) := fun E => (ea E).bind fun p => if uniqA p.1 then match valsA p.1 p.2 with
    | some ds => (match f ds with
      | .ok d o => .ok (d, giveA p.1 o (wipeE p.2 (lentOf p.1)))
      | .exc x o => .exc x (giveA p.1 o (wipeE p.2 (lentOf p.1)))
      | .no => .no)
    | none => .no
  else .no
open Classical in
theorem args_in {c : Cn} {H H1 : Hp} {E E1 : Env} {F F1 G : Nat → List Addr} {σ : L2.St} {as : List Arg} {vs : List V} {ds : List D} (s1 : Stp c H E F E1 σ H1 F1) (A : ArgsOk c H E F E1 F1 H1 σ as vs G) (u : uniqA as = true) (hv : valsA as E1 = some ds) :
    ∃ F0, Sims c H1 (ds.map some) (vs.map some) F0 ∧ (∀ a, Foot (ds.map some) F0 a → Foot E F a ∨ H a = none) ∧ (∀ j d, gv (wipeE E1 (lentOf as)) j = some d → ∀ a ∈ F1 j, ¬ Foot (ds.map some) F0 a) ∧
      ∀ (o : List (Option D)) (H2 : Hp) (F' : Nat → List Addr), Fr (Foot (ds.map some) F0) H1 H2 → Sims c H2 o (vs.map some) F' → (∀ a, Foot o F' a → Foot (ds.map some) F0 a ∨ H1 a = none) →
        ∃ F2, Stp c H E F (giveA as o (wipeE E1 (lentOf as))) σ H2 F2 ∧ ∀ a, Foot (giveA as o (wipeE E1 (lentOf as))) F2 a → Foot o F' a ∨ ∃ j d, gv (wipeE E1 (lentOf as)) j = some d ∧ a ∈ F1 j := by
  obtain ⟨hl, hg⟩ := vals_get hv
  let F0 : Nat → List Addr := fun i => match as[i]? with
    | some (.o _) => G i
    | some (.l r) => F1 r
    | none => []
  have gd : ∀ {i : Nat} {d : D}, gv (ds.map some) i = some d → ds[i]? = some d := fun {i d} g => by
    rw [gv_some, List.getElem?_map] at g
    cases h : ds[i]? with
    | none => rw [h] at g; cases g
    | some x => rw [h] at g; cases g; rfl
  have cases0 : ∀ {i : Nat} {d : D} {a : Addr}, gv (ds.map some) i = some d → a ∈ F0 i → (as[i]? = some (.o d) ∧ a ∈ G i) ∨ ∃ r, as[i]? = some (.l r) ∧ gv E1 r = some d ∧ a ∈ F1 r := fun {i d a} g ha => by
    rcases hg i d (gd g) with h | ⟨r, h, h'⟩
    · exact .inl ⟨h, by simpa [F0, h] using ha⟩
    · exact .inr ⟨r, h, h', by simpa [F0, h] using ha⟩
  have s0 : Sims c H1 (ds.map some) (vs.map some) F0 := by
    refine ⟨by rw [List.length_map, List.length_map, ← hl, A.len], fun i d g => ?_, fun i j d e n g g' a ha hb => ?_⟩
    · rcases hg i d (gd g) with h | ⟨r, h, h'⟩
      · obtain ⟨v, e1, e2⟩ := A.own i d h
        exact ⟨v, by rw [List.getElem?_map, e1]; rfl, by simpa [F0, h] using e2⟩
      · obtain ⟨v, e1, e2⟩ := A.lent i r h
        obtain ⟨v', e3, e4⟩ := s1.sim.get r d h'
        rw [e2] at e3
        cases e3
        exact ⟨v, by rw [List.getElem?_map, e1]; rfl, by simpa [F0, h] using e4⟩
    · rcases cases0 g ha with ⟨h, ha⟩ | ⟨r, h, gr, ha⟩
      · rcases cases0 g' hb with ⟨h', hb⟩ | ⟨r', h', gr', hb⟩
        · exact A.dj i j d e n h h' a ha hb
        · exact A.djE i d h a ha ⟨r', e, gr', hb⟩
      · rcases cases0 g' hb with ⟨h', hb⟩ | ⟨r', h', gr', hb⟩
        · exact A.djE j e h' a hb ⟨r, d, gr, ha⟩
        · by_cases q : r = r'
          · subst q
            exact n (uniq_ok u i j r h h')
          · exact s1.sim.dj r r' d e q gr gr' a ha hb
  have HP : ∀ a, Foot (ds.map some) F0 a → Foot E F a ∨ H a = none := fun a ⟨i, d, g, ha⟩ => by
    rcases cases0 g ha with ⟨h, ha⟩ | ⟨r, h, gr, ha⟩
    · exact A.new i d h a ha
    · exact s1.ft a ⟨r, d, gr, ha⟩
  have nP : ∀ j d, gv (wipeE E1 (lentOf as)) j = some d → ∀ a ∈ F1 j, ¬ Foot (ds.map some) F0 a := fun j d g a ha ⟨i, e, g', hb⟩ => by
    obtain ⟨g1, nl⟩ := gv_wipeE g
    rcases cases0 g' hb with ⟨h, hb⟩ | ⟨r, h, gr, hb⟩
    · exact A.djE i e h a hb ⟨j, d, g1, ha⟩
    · by_cases q : r = j
      · subst q
        exact nl (mem_lent h)
      · exact s1.sim.dj r j e d q gr g1 a hb ha
  refine ⟨F0, s0, HP, nP, fun o H2 F' fr so nw => ?_⟩
  let F2 : Nat → List Addr := fun j => if h : ∃ i : Nat, as[i]? = some (.l j) then F' (Classical.choose h) else F1 j
  have f2l : ∀ {i j : Nat}, as[i]? = some (.l j) → F2 j = F' i := fun {i j} h => by
    have hh : ∃ i : Nat, as[i]? = some (.l j) := ⟨i, h⟩
    show (if h : ∃ i : Nat, as[i]? = some (.l j) then F' (Classical.choose h) else F1 j) = _
    rw [dif_pos hh, uniq_ok u _ i j (Classical.choose_spec hh) h]
  have f2k : ∀ {j : Nat} {d : D}, gv (wipeE E1 (lentOf as)) j = some d → F2 j = F1 j := fun {j d} g => by
    show (if h : ∃ i : Nat, as[i]? = some (.l j) then F' (Classical.choose h) else F1 j) = _
    rw [dif_neg fun ⟨i, h⟩ => (gv_wipeE g).2 (mem_lent h)]
  have cs : ∀ {j : Nat} {d : D}, gv (giveA as o (wipeE E1 (lentOf as))) j = some d → (∃ i : Nat, as[i]? = some (.l j) ∧ gv o i = some d ∧ F2 j = F' i) ∨ (gv (wipeE E1 (lentOf as)) j = some d ∧ F2 j = F1 j) := fun {j d} g => by
    rcases give_gv g with ⟨i, h1, h2⟩ | g
    · exact .inl ⟨i, h1, gv_some.mpr h2, f2l h1⟩
    · exact .inr ⟨g, f2k g⟩
  have nK : ∀ {j : Nat} {d : D} {a : Addr}, gv (wipeE E1 (lentOf as)) j = some d → a ∈ F1 j → ¬ Foot o F' a := fun {j d a} g ha z => by
    rcases nw a z with q | q
    · exact nP j d g a ha q
    · obtain ⟨x, hx, _⟩ := foot_at s1.sim ⟨j, d, (gv_wipeE g).1, ha⟩
      rw [hx] at q; cases q
  have s2 : Sims c H2 (giveA as o (wipeE E1 (lentOf as))) σ F2 := by
    refine ⟨by rw [give_len, wipeE_len]; exact s1.sim.len, fun j d g => ?_, fun j k d e n g g' a ha hb => ?_⟩
    · rcases cs g with ⟨i, h1, h2, h3⟩ | ⟨h1, h3⟩
      · obtain ⟨v, e1, e2⟩ := so.get i d h2
        obtain ⟨v', e3, e4⟩ := A.lent i j h1
        rw [List.getElem?_map, e3] at e1
        cases e1
        exact ⟨v, e4, by rw [h3]; exact e2⟩
      · obtain ⟨v, e1, e2⟩ := s1.sim.get j d (gv_wipeE h1).1
        exact ⟨v, e1, by rw [h3]; exact fr.own e2 (nP j d h1)⟩
    · rcases cs g with ⟨i, h1, h2, h3⟩ | ⟨h1, h3⟩
      · rw [h3] at ha
        rcases cs g' with ⟨i', h1', h2', h3'⟩ | ⟨h1', h3'⟩
        · rw [h3'] at hb
          refine so.dj i i' d e (fun z => n ?_) h2 h2' a ha hb
          subst z
          rw [h1] at h1'
          cases h1'
          rfl
        · rw [h3'] at hb
          exact nK h1' hb ⟨i, d, h2, ha⟩
      · rw [h3] at ha
        rcases cs g' with ⟨i', h1', h2', h3'⟩ | ⟨h1', h3'⟩
        · rw [h3'] at hb
          exact nK h1 ha ⟨i', e, h2', hb⟩
        · rw [h3'] at hb
          exact s1.sim.dj j k d e n (gv_wipeE h1).1 (gv_wipeE h1').1 a ha hb
  have ft2 : ∀ a, Foot (giveA as o (wipeE E1 (lentOf as))) F2 a → Foot o F' a ∨ ∃ j d, gv (wipeE E1 (lentOf as)) j = some d ∧ a ∈ F1 j := fun a ⟨j, d, g, ha⟩ => by
    rcases cs g with ⟨i, h1, h2, h3⟩ | ⟨h1, h3⟩
    · rw [h3] at ha
      exact .inl ⟨i, d, h2, ha⟩
    · rw [h3] at ha
      exact .inr ⟨j, d, h1, ha⟩
  refine ⟨F2, ⟨s2, s1.fr.trans fr HP, fun a z => ?_⟩, ft2⟩
  rcases ft2 a z with q | ⟨j, d, g, ha⟩
  · rcases nw a q with q | q
    · exact HP a q
    · exact s1.fr.back q
  · exact s1.ft a ⟨j, d, (gv_wipeE g).1, ha⟩
theorem se_call {k n : Nat} {f : Addr} {fd : FuncData} {ps : List Str} {fn : List D → FR} {x : Str} {p pos : Pos} {e : Expr} {es : List Expr} {t : TA} {ea : Env → Res (List Arg × Env)} (F : FnOk X.prog X.w X.K X.mg X.base (L2.CX X.prog X.w) k f fd ps (spV (cn X fa) n fn)) (hr : Room k X.A) (hm : X.mg x = some (.ref f)) (hk : PySem.W.keepIn X.K (.ref f) = true) (hb : Binds X.K fd ps [])
    (hx : ∀ σ, PassesAt (L2.CX X.prog X.w) X σ (WE W σ)) (ha : SAs X fa W (e :: es) t ea) (hn : (e :: es).length = n := by rfl) (hg : Gl X x := by rfl) (hdb : (x == ("__debug__" : Str)) = false := by decide) (he : starEach (e :: es) X.env = (false, eval e X.env) :: starEach es X.env := by rfl) (hpl : (backTo pos (starEach es X.env)).any (·.1) = false := by rfl) :
    SE X fa W (.Call (.Name x p) (e :: es) [] pos) (tCallS (spV (cn X fa) n fn) (WE W) t) (eCall fn ea) :=
  ⟨pe_callS F hr hg hm hk hb hx ha.pa hdb he hpl, fun E σ H F Q s r => by
    refine ha.ok E σ H F _ s ((rp_keep r.bind).mono (fun p r vs H1 F1 G s1 A => ?_) fun _ _ z => z)
    obtain ⟨r0, r⟩ := r
    have hvl : vs.length = n := by rw [← A.len, ha.len E p.1 p.2 r0]; exact hn
    split at r
    · rename_i hu
      split at r
      · rename_i ds hds
        obtain ⟨F0, s0, HP, nP, fin⟩ := args_in s1 A hu hds
        refine ⟨hvl, ds, F0, s0, ?_⟩
        split at r
        · rename_i d o hf
          rw [hf]
          intro v H2 g F' fr ow so dj nw
          obtain ⟨F2, s2, ft2⟩ := fin o H2 F' fr so fun a z => nw a (.inr z)
          refine r v H2 F2 g s2 ⟨ow, fun a ha z => ?_, fun a ha => ?_⟩
          · rcases ft2 a z with q | ⟨j, d', gj, hj⟩
            · exact dj a ha q
            · rcases nw a (.inl ha) with w | w
              · exact nP j d' gj a hj w
              · obtain ⟨y, hy, _⟩ := foot_at s1.sim ⟨j, d', (gv_wipeE gj).1, hj⟩
                rw [hy] at w; cases w
          · rcases nw a (.inl ha) with w | w
            · exact HP a w
            · exact s1.fr.back w
        · rename_i xx o hf
          rw [hf]
          intro cls dd H2 F' fr so nw xr nd
          obtain ⟨F2, s2, ft2⟩ := fin o H2 F' fr so nw
          refine r cls dd H2 F2 s2 xr fun a ea => ⟨fun z => ?_, ?_⟩
          · rcases ft2 a z with q | ⟨j, d', gj, hj⟩
            · exact (nd a ea).1 q
            · rcases (nd a ea).2 with w | w
              · exact nP j d' gj a hj w
              · obtain ⟨y, hy, _⟩ := foot_at s1.sim ⟨j, d', (gv_wipeE gj).1, hj⟩
                rw [hy] at w; cases w
          · rcases (nd a ea).2 with w | w
            · exact HP a w
            · exact s1.fr.back w
        · exact r.elim
      · exact r.elim
    · exact r.elim⟩
end
end VS

set_option maxRecDepth 100000
set_option maxHeartbeats 4000000
namespace VS
open PySem L2

/-! ### dicts whose keys are tuples of ints and texts -/
def keyOf1 : D → Option Key
  | .int i => some (.inl i)
  | .str x => some (.inr x)
  | _ => none
def keysOf : List D → Option (List Key)
  | [] => some []
  | d :: r => (keyOf1 d).bind fun k => (keysOf r).map (k :: ·)
def keyT : D → Option (List Key)
  | .tup l => keysOf l
  | _ => none
theorem own_key1 {c : Cn} {H : Hp} {d : D} {v : V} {f : List Addr} {k : Key} (h : keyOf1 d = some k) (o : Own c H d v f) : v = kV k := by
  cases d with
  | int i => cases h; exact own_int o
  | str x => cases h; exact own_str o
  | _ => cases h
theorem owns_keys {c : Cn} {H : Hp} : ∀ {l : List D} {xs : List V} {f : List Addr} {ks : List Key}, keysOf l = some ks → Owns c H l xs f → xs = ks.map kV
  | [], xs, f, ks, h, o => by cases h; simp only [Owns] at o; exact o.1
  | d :: r, xs, f, ks, h, o => by
    obtain ⟨k, e1, h⟩ := Option.bind_eq_some_iff.mp h
    obtain ⟨ks', e2, rfl⟩ := Option.map_eq_some_iff.mp h
    simp only [Owns] at o
    obtain ⟨x, ys, g, h', rfl, o1, o2, _⟩ := o
    rw [own_key1 e1 o1, owns_keys e2 o2]
    rfl
theorem own_keyT {c : Cn} {H : Hp} {d : D} {v : V} {f : List Addr} {ks : List Key} (h : keyT d = some ks) (o : Own c H d v f) : ∃ b, v = .ref b ∧ H b = some (.tup (ks.map kV)) := by
  cases d with
  | tup l =>
    obtain ⟨a, xs, rfl, h1, h2⟩ := own_tup o
    exact ⟨a, rfl, by rw [← owns_keys h h2]; exact h1⟩
  | _ => cases h
theorem own_dT {c : Cn} {H : Hp} {ks : List (List Key)} {l : List D} {v : V} {f : List Addr} (h : Own c H (.dT ks l) v f) : ∃ a xs g, v = .ref a ∧ H a = some (.dT (ks.zip xs)) ∧ ks.length = xs.length ∧ Owns c H l xs g ∧ a ∉ g ∧ f = a :: g := by simpa only [Own] using h
def findK {κ : Type} [DecidableEq κ] : List κ → κ → Option Nat
  | [], _ => none
  | k :: r, x => if k = x then some 0 else (findK r x).map (· + 1)
theorem valV_zip {κ : Type} [DecidableEq κ] : ∀ {ks : List κ} {xs : List V} {k : κ}, ks.length = xs.length → valV (ks.zip xs) k = (findK ks k).bind fun j => xs[j]?
  | [], [], k, _ => rfl
  | k0 :: ks, x :: xs, k, h => by
    have ih := valV_zip (ks := ks) (xs := xs) (k := k) (by simpa using h)
    unfold valV at ih ⊢
    unfold findK
    rw [List.zip_cons_cons, List.find?_cons]
    by_cases e : k0 = k
    · simp [e]
    · simp only [e, decide_false, if_false]
      rw [ih]
      cases findK ks k <;> rfl
theorem findK_lt {κ : Type} [DecidableEq κ] : ∀ {ks : List κ} {k : κ} {j : Nat}, findK ks k = some j → j < ks.length
  | [], k, j, h => by cases h
  | k0 :: ks, k, j, h => by
    unfold findK at h
    split at h
    · cases h; simp
    · obtain ⟨i, e1, rfl⟩ := Option.map_eq_some_iff.mp h
      have := findK_lt e1
      simp; omega
theorem putK_zip_new {κ : Type} [DecidableEq κ] {ks : List κ} {xs : List V} {k : κ} {v : V} (hl : ks.length = xs.length) (h : findK ks k = none) : putK (ks.zip xs) k v = (ks ++ [k]).zip (xs ++ [v]) := by
  rw [putK_new v (by rw [valV_zip hl, h]; rfl), List.zip_append hl]
  rfl
theorem putK_zip_old {κ : Type} [DecidableEq κ] : ∀ {ks : List κ} {xs : List V} {k : κ} {v : V} {j : Nat}, ks.Nodup → ks.length = xs.length → findK ks k = some j → putK (ks.zip xs) k v = ks.zip (xs.set j v) := by
  intro ks xs k v j nd hl h
  have hx : (((ks.zip xs).any fun kv => decide (kv.1 = k))) = true := by
    rw [valV_any, valV_zip hl, h]
    have := findK_lt h
    simp [List.getElem?_eq_getElem (show j < xs.length by omega)]
  unfold putK
  rw [if_pos hx]
  clear hx
  induction ks generalizing xs j with
  | nil => cases h
  | cons k0 ks ih =>
    cases xs with
    | nil => simp at hl
    | cons x xs =>
      unfold findK at h
      split at h
      · rename_i e
        subst e
        cases h
        have no : ∀ p ∈ ks.zip xs, ¬ p.1 = k0 := fun p hp z => (List.nodup_cons.mp nd).1 (z ▸ (List.of_mem_zip hp).1)
        simp only [List.zip_cons_cons, List.map_cons, List.set_cons_zero, if_true]
        congr 1
        rw [List.map_congr_left (g := id) (fun p hp => by simp [no p hp])]
        simp
      · rename_i e
        obtain ⟨i, e1, rfl⟩ := Option.map_eq_some_iff.mp h
        simp only [List.zip_cons_cons, List.map_cons, List.set_cons_succ]
        rw [if_neg e, ih (List.nodup_cons.mp nd).2 (by simpa using hl) e1]
def dGet : D → D → Option (Option D)
  | .dT ks l, y => (keyT y).map fun k => (findK ks k).bind fun j => l[j]?
  | _, _ => none
def dPut : D → D → D → Option D
  | .dT ks l, y, z => (keyT y).bind fun k => match findK ks k with
    | none => if l.length < LIM && ks.length == l.length then some (.dT (ks ++ [k]) (l ++ [z])) else none
    | some j => if l.length < LIM && decide ks.Nodup && ks.length == l.length then some (.dT ks (l.set j z)) else none
  | _, _, _ => none
section
variable {X : Cx} {fa : Nat → Addr} {W : WX} {pin : Pin} {pos : Pos}
theorem dget_T {c : Cn} {H : Hp} {d y : D} {v w : V} {f g : List Addr} {o : Option D} (o1 : Own c H d v f) (o2 : Own c H y w g) (h : dGet d y = some o) : ∃ a ov, v = .ref a ∧ DGet H a w ov ∧ ov.isSome = o.isSome ∧ ∀ z, o = some z → ∃ u k, ov = some u ∧ Own c H z u k ∧ ∀ b ∈ k, b ∈ f := by
  cases d with
  | dT ks l =>
    obtain ⟨k, e1, rfl⟩ := Option.map_eq_some_iff.mp h
    obtain ⟨a, xs, g', rfl, h1, hl, h2, _, rfl⟩ := own_dT o1
    obtain ⟨b, rfl, h3⟩ := own_keyT e1 o2
    have el := owns_len l xs g' h2
    refine ⟨a, _, rfl, DGet.t h1 h3, ?_, fun z hz => ?_⟩
    · rw [valV_zip hl]
      cases hf : findK ks k with
      | none => rfl
      | some j =>
        have := findK_lt hf
        simp [List.getElem?_eq_getElem (show j < xs.length by omega), List.getElem?_eq_getElem (show j < l.length by omega)]
    · obtain ⟨j, ej, hz⟩ := Option.bind_eq_some_iff.mp hz
      obtain ⟨u, k', e3, e4, e5⟩ := owns_get l xs g' j z h2 hz
      exact ⟨u, k', by rw [valV_zip hl, ej]; exact e3, e4, fun b hb => List.mem_cons_of_mem _ (e5 b hb)⟩
  | _ => cases h
def bDin (neg : Bool) (ey ed : Env → Option D) : Env → Option D := fun E => (ey E).bind fun y => (ed E).bind fun d => (dGet d y).map fun o => .bl (if neg then !o.isSome else o.isSome)
theorem sf_din {i o : Expr} {ty td : TE} {ey ed : Env → Option D} (hu : X.A.units + 1 < cLine) (hi : SB X fa i ty ey) (ho : SB X fa o td ed) (hb : behindInMarks .In o = false := by rfl) : SF X fa (.Compare i [.In] [o] pos) (tDIn ty td) (bDin false ey ed) :=
  ⟨pe_cmp (pc_din hu hi.pe ho.pe) hb, fun E d g σ H F Q s k => by
    obtain ⟨y, e1, g⟩ := Option.bind_eq_some_iff.mp g
    obtain ⟨dd, e2, g⟩ := Option.bind_eq_some_iff.mp g
    obtain ⟨r, e3, rfl⟩ := Option.map_eq_some_iff.mp g
    refine hi.ok E y e1 σ H F _ s fun w H1 f1 x1 o1 n1 => ho.ok E dd e2 σ H1 F _ (x1.sims s) fun v H2 f2 x2 o2 n2 => ?_
    obtain ⟨a, ov, rfl, hg, hs, _⟩ := dget_T o2 (x2.own o1) e3
    refine ⟨a, ov, rfl, hg, ?_⟩
    rw [hs]
    exact k _ H2 [] (x1.trans x2) own_mk_bl fun _ z => by cases z⟩
theorem sf_dnin {i o : Expr} {ty td : TE} {ey ed : Env → Option D} (hu : X.A.units + 1 < cLine) (hi : SB X fa i ty ey) (ho : SB X fa o td ed) (hb : behindInMarks .NotIn o = false := by rfl) : SF X fa (.Compare i [.NotIn] [o] pos) (tDNotIn ty td) (bDin true ey ed) :=
  ⟨pe_cmp (pc_dnotin hu hi.pe ho.pe) hb, fun E d g σ H F Q s k => by
    obtain ⟨y, e1, g⟩ := Option.bind_eq_some_iff.mp g
    obtain ⟨dd, e2, g⟩ := Option.bind_eq_some_iff.mp g
    obtain ⟨r, e3, rfl⟩ := Option.map_eq_some_iff.mp g
    refine hi.ok E y e1 σ H F _ s fun w H1 f1 x1 o1 n1 => ho.ok E dd e2 σ H1 F _ (x1.sims s) fun v H2 f2 x2 o2 n2 => ?_
    obtain ⟨a, ov, rfl, hg, hs, _⟩ := dget_T o2 (x2.own o1) e3
    refine ⟨a, ov, rfl, hg, ?_⟩
    rw [hs]
    exact k _ H2 [] (x1.trans x2) own_mk_bl fun _ z => by cases z⟩
theorem sp_din {i o : Expr} {ty td : TE} {ey ed : Env → Option D} (hu : X.A.units + 1 < cLine) (hi : SB X fa i ty ey) (ho : SB X fa o td ed) (hb : behindInMarks .In o = false := by rfl) : SP0 X fa (.Compare i [.In] [o] pos) (tB (tDIn ty td)) (pB (bDin false ey ed)) :=
  sp_val (sf_din hu hi ho hb).toB fun _ => pt_cmp (pc_din hu hi.pe ho.pe) hb
theorem sp_dnin {i o : Expr} {ty td : TE} {ey ed : Env → Option D} (hu : X.A.units + 1 < cLine) (hi : SB X fa i ty ey) (ho : SB X fa o td ed) (hb : behindInMarks .NotIn o = false := by rfl) : SP0 X fa (.Compare i [.NotIn] [o] pos) (tB (tDNotIn ty td)) (pB (bDin true ey ed)) :=
  sp_val (sf_dnin hu hi ho hb).toB fun _ => pt_cmp (pc_dnotin hu hi.pe ho.pe) hb
def bDget (ed ey : Env → Option D) : Env → Option D := fun E => (ed E).bind fun d => (ey E).bind fun y => (dGet d y).bind id
theorem sb_dget {i o : Expr} {ty td : TE} {ey ed : Env → Option D} (hu : X.A.units + 1 < cLine) (ho : SB X fa o td ed) (hi : SB X fa i ty ey) (hs : NoSl i := by exact fun _ _ => rfl) : SB X fa (.Subscript o i pos) (tDGet td ty) (bDget ed ey) :=
  ⟨pe_dget hu ho.pe hi.pe hs, fun E d g σ H F Q s k => by
    obtain ⟨dd, e1, g⟩ := Option.bind_eq_some_iff.mp g
    obtain ⟨y, e2, g⟩ := Option.bind_eq_some_iff.mp g
    obtain ⟨o, e3, e4⟩ := Option.bind_eq_some_iff.mp g
    refine ho.ok E dd e1 σ H F _ s fun v H1 f1 x1 o1 n1 => hi.ok E y e2 σ H1 F _ (x1.sims s) fun w H2 f2 x2 o2 n2 => ?_
    obtain ⟨a, ov, rfl, hg, _, hz⟩ := dget_T (x2.own o1) o2 e3
    obtain ⟨u, kk, rfl, o4, sub⟩ := hz d e4
    exact ⟨a, u, rfl, hg, k u H2 kk (x1.trans x2) o4 fun b hb => n1 b (sub b hb)⟩⟩
/-- a dict's place has become another one -/
theorem mut_dT {c : Cn} {H : Hp} {E : Env} {σ : L2.St} {F : Nat → List Addr} {r : Nat} {ks ks' : List (List Key)} {l l' : List D} {a : Addr} {xs xs' : List V} {g0 g0' fn : List Addr} (s : Sims c H E σ F) (g : gv E r = some (.dT ks l)) (hv : σ[r]? = some (some (.ref a)))
    (ef : F r = a :: g0) (ha : H a = some (.dT (ks.zip xs))) (hk : ks'.length = xs'.length) (o : Owns c H l' xs' g0') (na : a ∉ g0') (sub : ∀ b ∈ g0', b ∈ g0 ∨ b ∈ fn) (hfn : ∀ b ∈ fn, ¬ Foot E F b) :
    ∃ F', Sims c (upd H a (.dT (ks'.zip xs'))) (E.set r (some (.dT ks' l'))) σ F' ∧ Fr (Foot E F) H (upd H a (.dT (ks'.zip xs'))) ∧ ∀ b, Foot (E.set r (some (.dT ks' l'))) F' b → Foot E F b ∨ b ∈ fn := by
  have far : Foot E F a := ⟨r, _, g, by rw [ef]; exact List.mem_cons_self⟩
  have fr : Fr (Foot E F) H (upd H a (.dT (ks'.zip xs'))) := fun b o e k => by
    by_cases q : b = a
    · subst q
      rw [ha] at e
      cases e
      rcases k with k | k
      · exact absurd far k
      · exact k.elim
    · rw [upd_ne q]; exact e
  have o' : Own c (upd H a (.dT (ks'.zip xs'))) (.dT ks' l') (.ref a) (a :: g0') := by
    simp only [Own]
    exact ⟨a, xs', g0', rfl, upd_same, hk, owns_keep fr.imm l' xs' g0' o fun b hb => upd_ne fun z => na (z ▸ hb), na, rfl⟩
  have kf : ∀ b ∈ a :: g0', b ∈ F r ∨ b ∈ fn := fun b hb => by
    rw [ef]
    rcases List.mem_cons.mp hb with rfl | hb
    · exact .inl List.mem_cons_self
    · rcases sub b hb with q | q
      · exact .inl (List.mem_cons_of_mem _ q)
      · exact .inr q
  have s1 := sims_drop s r
  have s2 : Sims c (upd H a (.dT (ks'.zip xs'))) (E.set r none) σ F := ⟨s1.len, fun i e g1 => by
    obtain ⟨w, h1, h2⟩ := s1.get i e g1
    refine ⟨w, h1, own_keep fr.imm e w (F i) h2 fun b hb => upd_ne fun z => ?_⟩
    subst z
    exact foot_dropped s g (by rw [ef]; exact List.mem_cons_self) ⟨i, e, g1, hb⟩, s1.dj⟩
  have s3 := sims_put (i := r) s2 o' fun b hb z => by
    rcases kf b hb with q | q
    · exact foot_dropped s g q z
    · exact hfn b q (foot_drop z)
  have eσ : σ.set r (some (.ref a)) = σ := by
    apply List.ext_getElem?
    intro k
    rw [List.getElem?_set]
    split
    · rename_i q
      subst q
      split
      · exact hv.symm
      · rename_i q
        rw [List.getElem?_eq_none (by omega)]
    · rfl
  have eE : (E.set r none).set r (some (.dT ks' l')) = E.set r (some (.dT ks' l')) := List.set_set ..
  rw [eσ, eE] at s3
  refine ⟨_, s3, fr, fun b z => ?_⟩
  rw [← eE] at z
  rcases foot_put z with q | q
  · exact .inl (foot_drop q)
  · rcases kf b q with q | q
    · exact .inl ⟨r, _, g, q⟩
    · exact .inr q
/-- name[y] = v, a dict -/
def sDput (r : Nat) (ey : Env → Option D) (ev : Env → Res (D × Env)) : Env → SR := fun E => (ev E).sr fun p => match gv p.2 r, ey p.2 with
  | some d, some y => match dPut d y p.1 with
    | some d' => .nx (p.2.set r (some d'))
    | none => .no
  | _, _ => .no
theorem ss_dput (r : Nat) {o i value : Expr} {ty tv : TE} {ey : Env → Option D} {ev : Env → Res (D × Env)} {pos' : Pos} (hu : X.A.units + 1 < cLine) (ho : PE X o (tVar r)) (hi : SB X fa i ty ey) (hv : SE X fa W value tv ev) (hs : swapsWith value (some (.Subscript o i pos')) pos.line X.env = pure false := by rfl) :
    SS X fa W pin (.Assign [.Subscript o i pos'] value pos) (sDPut (tVar r) ty tv) (sDput r ey ev) :=
  ⟨ps_dput hu ho hi.pe hv.pe hs, fun E σ H F D s rr => by
    refine hv.ok E σ H F _ s ((rp_sr rr).mono (fun p rr u H1 F1 f s1 g1 => ?_) fun _ _ z => z)
    split at rr
    · rename_i d y gd ey'
      split at rr
      · rename_i d' ed
        obtain ⟨v, hv', o1⟩ := s1.sim.get r d gd
        refine ⟨v, hv', hi.ok p.2 y ey' σ H1 F1 _ s1.sim fun w H2 f2 x2 o2 n2 => ?_⟩
        have o1 := x2.own o1
        have g2 := g1.later (Stp.ext s1.sim x2)
        cases d with
        | dT ks l =>
          obtain ⟨a, xs, g0, rfl, h1, hl, h2, na, ef⟩ := own_dT o1
          have el := owns_len l xs g0 h2
          obtain ⟨k, ek, ed⟩ := Option.bind_eq_some_iff.mp ed
          obtain ⟨b, rfl, h3⟩ := own_keyT ek o2
          have naf : a ∉ f := fun z => g1.dj a z ⟨r, _, gd, by rw [ef]; exact List.mem_cons_self⟩
          have nf : ∀ x ∈ f, x ∉ g0 := fun x hx z => g1.dj x hx ⟨r, _, gd, by rw [ef]; exact List.mem_cons_of_mem _ z⟩
          have fin : ∀ {ks' : List (List Key)} {l' : List VS.D} {xs' : List V} {g0' : List Addr}, d' = .dT ks' l' → ks'.length = xs'.length → Owns (cn X fa) H2 l' xs' g0' → (∀ x ∈ g0', x ∈ g0 ∨ x ∈ f) → putK (ks.zip xs) k u = ks'.zip xs' → ks.length < LIM → ∃ a' H4, (V.ref a) = V.ref a' ∧ DPut H2 a' (.ref b) u H4 ∧ D.nx σ H4 := fun {ks' l' xs' g0'} e1 e2 e3 e4 e5 e6 => by
            subst e1
            obtain ⟨F', s3, fr, ft⟩ := mut_dT (fn := f) (x2.sims s1.sim) gd hv' ef h1 e2 e3 (fun z => by
              rcases e4 a z with q | q
              · exact na q
              · exact naf q) e4 g2.dj
            refine ⟨a, _, rfl, DPut.t h1 h3 (by rw [List.length_zip, hl, Nat.min_self, ← hl]; exact lt_line e6), ?_⟩
            rw [e5]
            refine rr σ _ F' ⟨s3, (s1.fr.trans (Fr.of_ext x2 : Fr (Foot p.2 F1) H1 H2) s1.ft).trans fr s1.ft, fun z hz => ?_⟩ Pn.refl
            rcases ft z hz with q | q
            · exact s1.ft z q
            · exact g1.new z q
          cases hf : findK ks k with
          | none =>
            rw [hf] at ed
            simp only at ed
            split at ed
            · rename_i q
              cases ed
              simp only [Bool.and_eq_true, decide_eq_true_eq] at q
              exact fin rfl (by simp [hl]) (owns_snoc l xs g0 p.1 u f h2 g2.own nf) (fun x hx => List.mem_append.mp hx) (putK_zip_new hl hf) (by omega)
            · cases ed
          | some j =>
            rw [hf] at ed
            simp only at ed
            split at ed
            · rename_i q
              cases ed
              simp only [Bool.and_eq_true, decide_eq_true_eq] at q
              obtain ⟨g', o3, k3⟩ := owns_set l xs g0 j p.1 u f h2 g2.own nf
              exact fin rfl (by simp [hl]) o3 k3 (putK_zip_old q.1.2 hl hf) (by omega)
            · cases ed
        | _ => cases ed
      · exact rr.elim
    · exact rr.elim⟩
/-- {k: v} -/
def tDisp1 (tk tv : TE) : TE := fun σ H Q => ∀ p, H p = none → tk σ (upd H p (.dT [])) fun x H1 => tv σ H1 fun y H2 => H2 p = some (.dT []) ∧ ∃ k b, x = .ref b ∧ H2 b = some (.tup (k.map kV)) ∧ Q (.ref p) (upd H2 p (.dT [(k, y)]))
theorem pe_disp1 {k v : Expr} {tk tv : TE} (hu : X.A.units + 1 < cLine) (hk : PE X k tk) (hv : PE X v tv) : PE X (.Dict [some k] [v] pos) (tDisp1 tk tv) := by
  refine ⟨fun pins s σ H Q I q => ?_⟩
  have hn := I.hok.fresh (Nat.le_refl s.heap.objs.size)
  have I1 := I.laid (a := s.heap.objs.size) (o := .dT []) (h' := s.heap.push { cls := .type "dict", data := .dict #[] }) (t' := s.toks) (fun _ _ q => Heap.get?_push_of_some _ q) (Nat.le_refl _) (dt_empty s.heap I.big)
  have hshape : (evalEachOpt [some k] X.env).zip ((evalEach [v] X.env).map fun v => do let x ← v; standAt pos; pure x) = (pairTrees [some k] [v] X.env pos).map fun p => (some p.1, p.2) := zip_pairTrees [some k] [v] X.env pos rfl rfl
  rw [arm_eval_Dict, hshape, dictDisplay_pairs _ (by simp [pairTrees]) (by simp [pairTrees])]
  refine wpAny_bind (wpAny_standAt (wpAny_bind ?_))
  unfold subDict
  refine wpAny_bind (wpAny_alloc ?_)
  refine wpAny_bind (wpAny_holding ?_)
  rw [if_pos (by simp [pairTrees])]
  refine wpAny_bind (pairTrees_cons_walk (thn (hk.run pins _ σ _ _ I1 (q _ hn)) fun u s1 ⟨x, H1, I2, rx, q1⟩ => thn (hv.run pins s1 σ H1 _ I2 q1) fun w2 s2 ⟨y, H2, I3, ry, q2⟩ => pairTrees_nil_walk ?_))
  obtain ⟨e0, kk, b, rfl, eb, q3⟩ := q2
  cases (show u = Value.ref b from rx)
  refine wpAny_holding (wpAny_bind ?_)
  rw [List.forIn_cons]
  obtain ⟨z, hd, xs, rel, dd⟩ := dt_of I3.hok e0
  cases rel
  refine wpAny_bind (wpAny_bind (wpAny_dictSet_heap (hsz := Nat.zero_le _) (show X.A.units < cLine by omega) (key_of I3.hok eb) dd fun h' dd' hs => wpAny_pure ?_))
  dsimp only
  rw [List.forIn_nil]
  refine wpAny_pure (wpAny_pure (wpAny_pure (wpAny_pure ?_)))
  obtain ⟨o, es, ep, hq, h2, h3, h4, _, h5⟩ := dd'
  refine ⟨.ref s.heap.objs.size, upd H2 s.heap.objs.size (.dT [(kk, y)]), d_write I3 (by rw [e0]; exact True.intro) hs ⟨o, hq⟩ ⟨(show 1 ≤ sizeLine by rw [sizeLine_eq]; decide), hd, _, .cons ⟨rfl, ?_, ry⟩ .nil, o, es, ep, hq, h2, h3, h4, h5⟩, rfl, q3⟩
  rw [upd_ne (ne_of eb e0 (fun z => nomatch z))]
  exact eb
def fDisp1 (ek ev : Env → Option D) : Env → Option D := fun E => (ek E).bind fun k => (ev E).bind fun y => (keyT k).bind fun ks => if y.pure then some (.dT [ks] [y]) else none
theorem sims_ext {c : Cn} {H H' : Hp} {E : Env} {σ : L2.St} {F : Nat → List Addr} (e : Ext H H') (s : Sims c H E σ F) : Sims c H' E σ F := e.sims s
theorem sf_disp1 {k v : Expr} {tk tv : TE} {ek ev : Env → Option D} (hu : X.A.units + 1 < cLine) (hk : SB X fa k tk ek) (hv : SB X fa v tv ev) : SF X fa (.Dict [some k] [v] pos) (tDisp1 tk tv) (fDisp1 ek ev) :=
  ⟨pe_disp1 hu hk.pe hv.pe, fun E d g σ H F Q s kk p hp => by
    obtain ⟨kd, e1, g⟩ := Option.bind_eq_some_iff.mp g
    obtain ⟨y, e2, g⟩ := Option.bind_eq_some_iff.mp g
    obtain ⟨ks, e3, g⟩ := Option.bind_eq_some_iff.mp g
    split at g
    · rename_i py
      cases g
      have x0 : Ext H (upd H p (.dT [])) := Ext.new hp
      refine hk.ok E kd e1 σ _ F _ (x0.sims s) fun w H1 f1 x1 o1 n1 => hv.ok E y e2 σ H1 F _ ((x0.trans x1).sims s) fun u H2 f2 x2 o2 n2 => ?_
      have hp2 : H2 p = some (.dT []) := x2 _ _ (x1 _ _ upd_same)
      obtain ⟨b, rfl, hb⟩ := own_keyT e3 (x2.own o1)
      have oy := own_pure y u f2 py o2
      subst oy
      have im : ImmK H2 (upd H2 p (.dT [(ks, u)])) := fun a o e i => by
        rw [upd_ne (fun z => by rw [z, hp2] at e; cases e; exact i)]; exact e
      refine ⟨hp2, ks, b, rfl, hb, kk _ _ [p] (fun a o e => ?_) ?_ fun a ha => ?_⟩
      · rw [upd_ne (ne_of_none e hp)]
        exact x2 _ _ (x1 _ _ (x0 _ _ e))
      · simp only [Own]
        exact ⟨p, [u], [], rfl, upd_same, rfl, by simp only [Owns]; exact ⟨u, [], [], [], rfl, own_keep im y u [] o2 (fun _ z => by cases z), ⟨rfl, rfl⟩, (fun _ z => by cases z), rfl⟩, by simp, rfl⟩
      · rw [List.mem_singleton] at ha
        rw [ha]; exact hp
    · cases g⟩
end
end VS

set_option maxRecDepth 100000
set_option maxHeartbeats 4000000
namespace VS
open PySem L2

/-! ### defs by name -/
structure Fd (K : PySem.W.Frag) (mg : Str → Option Value) (x qual : Str) (st : Stmt) (ps : List Str) : Prop where
  ex : ∃ f fd, Fun K x qual st f fd ∧ Binds K fd ps [] ∧ mg x = some (.ref f)
structure Cb (P : Program) (w : World) (K : PySem.W.Frag) (mg : Str → Option Value) (base : Heap) (fa : Nat → Addr) (k : Nat) (x : Str) (n : Nat) (fn : List D → FR) : Prop where
  ex : ∃ f fd ps, FnOk P w K mg base (L2.CX P w) k f fd ps (spV ⟨K, fa⟩ n fn) ∧ mg x = some (.ref f) ∧ PySem.W.keepIn K (.ref f) = true ∧ Binds K fd ps []
theorem Cb.mono {P : Program} {w : World} {K : PySem.W.Frag} {mg : Str → Option Value} {base : Heap} {fa : Nat → Addr} {j k n : Nat} {x : Str} {fn : List D → FR} (c : Cb P w K mg base fa j x n fn) (h : j ≤ k) : Cb P w K mg base fa k x n fn := by
  obtain ⟨f, fd, ps, F, r⟩ := c.ex
  exact ⟨f, fd, ps, F.mono h, r⟩
section
variable {P : Program} {w : World} {K : PySem.W.Frag} {mg : Str → Option Value} {base : Heap} {fa : Nat → Addr}
/-- a def, by its body -/
theorem cb_mk {x qual : Str} {st : Stmt} {N ps : List Str} {k : Nat} {pin : Pin} {b : Env → SR} (F : Fd K mg x qual st ps) (S : FnScope N ps (defScope st))
    (hb : ∀ (f : Addr) (cdv : Value) (A : Around) (outer : List PySem.Env) (s : Shared) (H : Hp) (E : XK), Room k (A.deeper (PyProof.Rows.envOfC qual (defScope st) s.heap.objs.size f cdv)) →
      ∃ t, SSs (cxOf (L2.CX P w) P w K mg base N qual (defScope st) f cdv A outer s H E) fa (WE0 E) pin (defBody st) t b) : Cb P w K mg base fa (k + 1) x ps.length (mkF ps.length N.length pin b) := by
  obtain ⟨f, fd, Fn, bn, gn⟩ := F.ex
  exact ⟨f, fd, ps, fn_vs Fn S (hb f), gn, Fn.kp, bn⟩
end
section
variable {X : Cx} {fa : Nat → Addr} {W : WX} {pin : Pin} {pos : Pos}
theorem sf_callC {j k n : Nat} {fn : List D → FR} {x : Str} {p pos : Pos} {e : Expr} {es : List Expr} {t : TA} {ea : Env → Option (List D)} (c : Cb X.prog X.w X.K X.mg X.base fa j x n fn) (hr : Room k X.A)
    (ha : SFs X fa (e :: es) t ea) (hj : j ≤ k := by decide) (hn : (e :: es).length = n := by rfl) (hg : Gl X x := by rfl) (hdb : (x == ("__debug__" : Str)) = false := by decide) (he : starEach (e :: es) X.env = (false, eval e X.env) :: starEach es X.env := by rfl) (hpl : (backTo pos (starEach es X.env)).any (·.1) = false := by rfl) :
    SF X fa (.Call (.Name x p) (e :: es) [] pos) (tCallS (spV (cn X fa) n fn) (WE W0) t) (fCall fn ea) := by
  obtain ⟨f, fd, ps, F, hm, hk, hb⟩ := c.ex
  exact sf_call F (hr.mono hj) hm hk hb ha hn hg hdb he hpl
theorem se_callC {j k n : Nat} {fn : List D → FR} {x : Str} {p pos : Pos} {e : Expr} {es : List Expr} {t : TA} {ea : Env → Res (List Arg × Env)} (c : Cb X.prog X.w X.K X.mg X.base fa j x n fn) (hr : Room k X.A)
    (hx : ∀ σ, PassesAt (L2.CX X.prog X.w) X σ (WE W σ)) (ha : SAs X fa W (e :: es) t ea) (hj : j ≤ k := by decide) (hn : (e :: es).length = n := by rfl) (hg : Gl X x := by rfl) (hdb : (x == ("__debug__" : Str)) = false := by decide) (he : starEach (e :: es) X.env = (false, eval e X.env) :: starEach es X.env := by rfl) (hpl : (backTo pos (starEach es X.env)).any (·.1) = false := by rfl) :
    SE X fa W (.Call (.Name x p) (e :: es) [] pos) (tCallS (spV (cn X fa) n fn) (WE W) t) (eCall fn ea) := by
  obtain ⟨f, fd, ps, F, hm, hk, hb⟩ := c.ex
  exact se_call F (hr.mono hj) hm hk hb hx ha hn hg hdb he hpl
/-- a def of the text as a value: its number -/
structure Fv (X : Cx) (fa : Nat → Addr) (k : Nat) (m n : Nat) (fn : List D → FR) : Prop where
  ex : ∃ fd ps, FnOk X.prog X.w X.K X.mg X.base (L2.CX X.prog X.w) k (fa m) fd ps (spV (cn X fa) n fn) ∧ PySem.W.keepIn X.K (.ref (fa m)) = true ∧ Binds X.K fd ps []
def tCall2 (i : Nat) (f1 f2 : Addr) (sp1 sp2 : Sp) (t : TA) : TE := fun σ H Q => (σ[i]? = some (some (.ref f1)) ∧ t σ H fun vs H1 => sp1 vs H1 Q (WE W0 σ)) ∨ (σ[i]? = some (some (.ref f2)) ∧ t σ H fun vs H1 => sp2 vs H1 Q (WE W0 σ))
theorem pe_call2 {i k j m1 m2 n : Nat} {fn1 fn2 : List D → FR} {x : Str} {p pos : Pos} {e : Expr} {es : List Expr} {t : TA} (c1 : Fv X fa j m1 n fn1) (c2 : Fv X fa j m2 n fn2) (hr : Room k X.A) (hj : j ≤ k) (hN : X.N[i]? = some x) (hv : Vis X.env.scope x) (ha : PA X (e :: es) t)
    (hd : (x == ("__debug__" : Str)) = false := by decide) (hcd : (x == ("__classdict__" : Str)) = false := by decide)
    (he : starEach (e :: es) X.env = (false, eval e X.env) :: starEach es X.env := by rfl) (hpl : (backTo pos (starEach es X.env)).any (·.1) = false := by rfl) :
    PE X (.Call (.Name x p) (e :: es) [] pos) (tCall2 i (fa m1) (fa m2) (spV (cn X fa) n fn1) (spV (cn X fa) n fn2) t) := by
  refine ⟨fun pins s σ H Q I h => ?_⟩
  have go : ∀ {m : Nat} {fn : List D → FR}, Fv X fa j m n fn → σ[i]? = some (some (.ref (fa m))) → (t σ H fun vs H1 => spV (cn X fa) n fn vs H1 Q (WE W0 σ)) → wpAny (model X.prog X.w) X.A (eval (.Call (.Name x p) (e :: es) [] pos) X.env) (EP X pins σ Q) X.xe s := fun {m fn} c hs ht => by
    obtain ⟨fd, ps, F, kp, b⟩ := c.ex
    refine PySem.wpAny_Call_Name_kw (thn ((pe_var (pos := p) hN hv hd hcd).run pins s σ H (fun v H1 => v = .ref (fa m) ∧ H1 = H) I ⟨.ref (fa m), hs, rfl, rfl⟩) fun u s1 ⟨v, H1, I1, r1, q1⟩ => ?_)
    obtain ⟨rfl, rfl⟩ := q1
    cases r1
    refine PySem.W.callWith_K (h₀ := X.base) I.ok.mod.kin kp (thn (ha.run pos pins s1 σ _ _ I1 ht) fun us s2 ⟨vs, H2, I2, r, q⟩ => ⟨I2.kIn, ?_⟩) he hpl
    exact run_fnS (E := WE W0) F (hr.mono hj) b (passW0 σ) I2 r q
  rcases h with ⟨h1, h2⟩ | ⟨h1, h2⟩
  · exact go c1 h1 h2
  · exact go c2 h1 h2
/-- name(e, ..), the name one of two defs, arguments pure -/
def fCall2 (i m1 m2 : Nat) (fn1 fn2 : List D → FR) (ea : Env → Option (List D)) : Env → Option D := fun E => match gv E i with
  | some (.fn m) => if m = m1 then fCall fn1 ea E else if m = m2 then fCall fn2 ea E else none
  | _ => none
theorem sf_call2 (i : Nat) {k j m1 m2 n : Nat} {fn1 fn2 : List D → FR} {x : Str} {p pos : Pos} {e : Expr} {es : List Expr} {t : TA} {ea : Env → Option (List D)} (c1 : Fv X fa j m1 n fn1) (c2 : Fv X fa j m2 n fn2) (hr : Room k X.A) (ha : SFs X fa (e :: es) t ea) (hj : j ≤ k := by decide) (hn : (e :: es).length = n := by rfl)
    (hN : X.N[i]? = some x := by rfl) (hv : Vis X.env.scope x := by first | exact Or.inl rfl | exact Or.inr (Or.inl rfl) | exact Or.inr (Or.inr rfl)) (hd : (x == ("__debug__" : Str)) = false := by decide) (hcd : (x == ("__classdict__" : Str)) = false := by decide)
    (he : starEach (e :: es) X.env = (false, eval e X.env) :: starEach es X.env := by rfl) (hpl : (backTo pos (starEach es X.env)).any (·.1) = false := by rfl) :
    SF X fa (.Call (.Name x p) (e :: es) [] pos) (tCall2 i (fa m1) (fa m2) (spV (cn X fa) n fn1) (spV (cn X fa) n fn2) t) (fCall2 i m1 m2 fn1 fn2 ea) :=
  ⟨pe_call2 c1 c2 hr hj hN hv ha.pa hd hcd he hpl, fun E d g σ H F Q s kk => by
    unfold fCall2 at g
    split at g
    · rename_i m gi
      obtain ⟨v, hv1, o⟩ := s.get i _ gi
      simp only [Own] at o
      obtain ⟨rfl, _⟩ := o
      have go : ∀ {fn : List D → FR}, fCall fn ea E = some d → (t σ H fun vs H1 => spV (cn X fa) n fn vs H1 Q (WE W0 σ)) := fun {fn} g => by
        obtain ⟨ds, e1, g⟩ := Option.bind_eq_some_iff.mp g
        split at g
        · rename_i pu
          refine ha.ok E ds e1 σ H F _ s fun vs H1 f x1 o1 n1 => ?_
          have o1 := owns_nil o1 pu
          obtain ⟨F0, s0, ft0⟩ := owns_split ds vs [] o1
          refine ⟨by rw [← owns_len ds vs [] o1, ha.len E ds e1]; exact hn, ds, F0, s0, ?_⟩
          split at g
          · rename_i d' o hf
            cases g
            rw [hf]
            exact fun v H2 g' F' fr ow sm dj nw => kk v H2 g' (fun a o e => fr a o (x1 a o e) (.inl fun z => by cases ft0 a z)) ow fun a ha => by
              rcases nw a (.inl ha) with q | q
              · cases ft0 a q
              · exact x1.back q
          · cases g
        · cases g
      split at g
      · rename_i e
        subst e
        exact .inl ⟨hv1, go g⟩
      · split at g
        · rename_i e
          subst e
          exact .inr ⟨hv1, go g⟩
        · cases g
    · cases g⟩

/-! ### names -/
def bV (i : Nat) : Env → Option D := fun E => gv E i
theorem sb_v (i : Nat) {x : Str} (hN : X.N[i]? = some x := by rfl) (hv : Vis X.env.scope x := by first | exact Or.inl rfl | exact Or.inr (Or.inl rfl) | exact Or.inr (Or.inr rfl)) (hd : (x == ("__debug__" : Str)) = false := by decide)
    (hcd : (x == ("__classdict__" : Str)) = false := by decide) : SB X fa (.Name x pos) (tVar i) (bV i) := sb_var i hN hv hd hcd
def bC (d : D) : Env → Option D := fun _ => some d
theorem sf_i {i : Int} {j pos} : SF X fa (.Constant (.int i) j pos) (tC (.int i)) (bC (.int i)) := sf_int
theorem sf_b {b : Bool} {j pos} : SF X fa (.Constant (.bool b) j pos) (tC (.bl b)) (bC (.bl b)) := sf_bl
theorem sf_n {j pos} : SF X fa (.Constant .none j pos) (tC .non) (bC .non) := sf_non
theorem sf_s {x : Str} {j pos} : SF X fa (.Constant (.str x) j pos) (tC (.str x)) (bC (.str x)) := sf_str
theorem sf_f (n : Nat) {x : Str} (hm : X.mg x = some (.ref (fa n))) (hg : Gl X x := by rfl) (hd : (x == ("__debug__" : Str)) = false := by decide) : SF X fa (.Name x pos) (tC (.ref (fa n))) (bC (.fn n)) := sf_fn hg hm hd

/-! ### statements -/
section
variable {x : Str} {pos' : Pos} {e : Expr} {te : TE} {ev : Env → Res (D × Env)}
theorem ss_set (i : Nat) (hN : X.N.Nodup) (h : SE X fa W e te ev) (hs : swapsWith e (some (.Name x pos')) pos.line X.env = pure false := by rfl) (hi : X.N[i]? = some x := by rfl) (hx : Loc X.env.scope x := by first | exact Or.inl rfl | exact Or.inr rfl)
    (hf : X.fn x = true ∨ X.env.scope.names.lookup x = some .local := by first | exact .inl rfl | exact .inr rfl) : SS X fa W pin (.Assign [.Name x pos'] e pos) (tAsg te (gName i)) (sAsg ev (bName pin i)) :=
  ⟨ps_set hN hi hx h.pe hs hf, asg_ok h (sg_name (pos := pos') hN hi hx hf)⟩
theorem ss_setLc (i : Nat) {y : Str} {py : Pos} {elt tg iter : Expr} {ifs : List Expr} {scope : Scope} {own : List (Str × Nat)} {spos : Pos} {wi : TI} {g : TG} {tt : TT} {te : TE} {ev : Env → Res (List D × Env)} {bd : D → Env → Option Env} {et : Env → Res (Bool × Env)} {ee : Env → Res (D × Env)} (hc : X.calm = true) (hN : X.N.Nodup) (ok : BlkOk X.N X.env.scope scope own) (hi : SI X fa W tg iter wi ev)
    (hg : ∀ (s : Shared) (H : Hp) (C : Addr) (cl : List (Str × Addr)) (fp : List Addr), SG (X.blk s H scope (compEnvC scope cl C X.env) fp) fa (pinOf (ownIx own)) tg g bd) (ht : ∀ (s : Shared) (H : Hp) (C : Addr) (cl : List (Str × Addr)) (fp : List Addr), STs (X.blk s H scope (compEnvC scope cl C X.env) fp) fa ifs tt et)
    (he : ∀ (s : Shared) (H : Hp) (C : Addr) (cl : List (Str × Addr)) (fp : List Addr), SE (X.blk s H scope (compEnvC scope cl C X.env) fp) fa W0 elt te ee) (hs : ∀ x, foldedSetIterable iter X.env x = pure x := by intro _; rfl)
    (hy : X.N[i]? = some y := by rfl) (hyl : X.env.scope.names.lookup y = some .local := by rfl) (hsw : swapsWith (.ListComp elt [⟨tg, iter, ifs, 0⟩] scope pos) (some (.Name y py)) spos.line X.env = pure true := by first | exact sw_true rfl rfl rfl (by decide +kernel) | rfl)
    (hf : X.fn y = true ∨ X.env.scope.names.lookup y = some .local := by first | exact .inl rfl | exact .inr rfl) : SS X fa W pin (.Assign [.Name y py] (.ListComp elt [⟨tg, iter, ifs, 0⟩] scope pos) spos) (tAsg (tLc wi g tt te (ownIx own)) (gName i)) (sAsg (eLc ev bd et ee (ownIx own)) (bName pin i)) :=
  ⟨ps_setLc hc hN hy hyl hsw hi.pi ok (fun s H C cl fp => (hg s H C cl fp).pg) (fun s H C cl fp => (ht s H C cl fp).pt) (fun s H C cl fp => (he s H C cl fp).pe) hs, asg_ok (se_lc (pos := pos) hc hN ok hi hg ht he hs) (sg_name (pos := py) hN hy (.inl hyl) hf)⟩
theorem ss_setLcP (i : Nat) {r : Nat} {y : Str} {py : Pos} {elt tg iter : Expr} {ifs : List Expr} {scope : Scope} {own : List (Str × Nat)} {spos : Pos} {wi : TI} {g : TG} {tt : TT} {te : TE} {ep : Env → Option (List D)} {bd : D → Env → Option Env} {et : Env → Res (Bool × Env)} {ee : Env → Res (D × Env)} (hc : X.calm = true) (hN : X.N.Nodup) (ok : BlkOk X.N X.env.scope scope own) (hi : SIP X fa r tg iter wi ep)
    (hg : ∀ (s : Shared) (H : Hp) (C : Addr) (cl : List (Str × Addr)) (fp : List Addr), SG (X.blk s H scope (compEnvC scope cl C X.env) fp) fa (pinOf (ownIx own)) tg g bd) (ht : ∀ (s : Shared) (H : Hp) (C : Addr) (cl : List (Str × Addr)) (fp : List Addr), STs (X.blk s H scope (compEnvC scope cl C X.env) fp) fa ifs tt et)
    (he : ∀ (s : Shared) (H : Hp) (C : Addr) (cl : List (Str × Addr)) (fp : List Addr), SE (X.blk s H scope (compEnvC scope cl C X.env) fp) fa W0 elt te ee) (hs : ∀ x, foldedSetIterable iter X.env x = pure x := by intro _; rfl)
    (hy : X.N[i]? = some y := by rfl) (hyl : X.env.scope.names.lookup y = some .local := by rfl) (hsw : swapsWith (.ListComp elt [⟨tg, iter, ifs, 0⟩] scope pos) (some (.Name y py)) spos.line X.env = pure true := by first | exact sw_true rfl rfl rfl (by decide +kernel) | rfl)
    (hf : X.fn y = true ∨ X.env.scope.names.lookup y = some .local := by first | exact .inl rfl | exact .inr rfl) : SS X fa W pin (.Assign [.Name y py] (.ListComp elt [⟨tg, iter, ifs, 0⟩] scope pos) spos) (tAsg (tLc wi g tt te (ownIx own)) (gName i)) (sAsg (eLcP r ep bd et ee (ownIx own)) (bName pin i)) :=
  ⟨ps_setLc hc hN hy hyl hsw hi.pi ok (fun s H C cl fp => (hg s H C cl fp).pg) (fun s H C cl fp => (ht s H C cl fp).pt) (fun s H C cl fp => (he s H C cl fp).pe) hs, asg_ok (se_lcP (pos := pos) hc hN ok hi hg ht he hs) (sg_name (pos := py) hN hy (.inl hyl) hf)⟩
/-- targets of a tuple -/
theorem ss_tup {tg : Expr} {g : TG} {bd : D → Env → Option Env} (h : SE X fa W e te ev) (hg : SG X fa pin tg g bd) (hs : swapsWithSole [tg] e pos.line X.env = pure false := by rfl) (hw : swappedStores [tg] e X.env = pure none := by rfl)
    (h1 : (assignEach [tg] X.env).map (·.2) = [assign tg X.env] := by rfl) : SS X fa W pin (.Assign [tg] e pos) (tAsg te g) (sAsg ev bd) :=
  ⟨ps_asg h.pe hg.pg hs hw h1, asg_ok h hg⟩
/-- a, b = x, y -/
def sPar (ea : Env → Res (List D × Env)) (bd : List D → Env → Option Env) : Env → SR := fun E => (ea E).sr fun p => match bd p.1 p.2 with
  | some E' => .nx E'
  | none => .no
def put2 (pin : Pin) (i j : Nat) : List D → Env → Option Env := fun ds E => match ds with
  | [d, e] => if pin i || pin j then none else some ((E.set i (some d)).set j (some e))
  | _ => none
def put3 (pin : Pin) (i j l : Nat) : List D → Env → Option Env := fun ds E => match ds with
  | [d, e, b] => if pin i || pin j || pin l then none else some (((E.set i (some d)).set j (some e)).set l (some b))
  | _ => none
theorem owns_2' {c : Cn} {H : Hp} {d e : D} {vs : List V} {f : List Addr} (o : Owns c H [d, e] vs f) : ∃ v w g h, vs = [v, w] ∧ Own c H d v g ∧ Own c H e w h ∧ (∀ a ∈ g, a ∉ h) ∧ (∀ a ∈ g, a ∈ f) ∧ ∀ a ∈ h, a ∈ f := by
  simp only [Owns] at o
  obtain ⟨x, ys, g, h, rfl, o1, ⟨y, zs, g', h', rfl, o2, ⟨rfl, rfl⟩, _, rfl⟩, dj, rfl⟩ := o
  exact ⟨x, y, g, g', rfl, o1, o2, fun a ha z => dj a ha (by simp [z]), fun a ha => by simp [ha], fun a ha => by simp [ha]⟩
theorem owns_3' {c : Cn} {H : Hp} {d e b : D} {vs : List V} {f : List Addr} (o : Owns c H [d, e, b] vs f) : ∃ v w u g h k, vs = [v, w, u] ∧ Own c H d v g ∧ Own c H e w h ∧ Own c H b u k ∧ (∀ a ∈ g, a ∉ h) ∧ (∀ a ∈ g, a ∉ k) ∧ (∀ a ∈ h, a ∉ k) ∧ (∀ a ∈ g, a ∈ f) ∧ (∀ a ∈ h, a ∈ f) ∧ ∀ a ∈ k, a ∈ f := by
  simp only [Owns] at o
  obtain ⟨x, ys, g, h, rfl, o1, ⟨y, zs, g', h', rfl, o2, ⟨z, us, g'', h'', rfl, o3, ⟨rfl, rfl⟩, _, rfl⟩, dj', rfl⟩, dj, rfl⟩ := o
  exact ⟨x, y, z, g, g', g'', rfl, o1, o2, o3, fun a ha z => dj a ha (by simp [z]), fun a ha z => dj a ha (by simp [z]), fun a ha z => dj' a ha (by simp [z]), fun a ha => by simp [ha], fun a ha => by simp [ha], fun a ha => by simp [ha]⟩
theorem ss_par2 (i j : Nat) {y : Str} {a b : Expr} {ta : TA} {px py pt : Pos} {kt k2 pt2} {ea : Env → Res (List D × Env)} (hc : X.calm = true) (hN : X.N.Nodup) (h : SEs X fa W [a, b] ta ea) (hi : X.N[i]? = some x := by rfl) (hj : X.N[j]? = some y := by rfl) (hij : i ≠ j := by decide)
    (hx : X.env.scope.names.lookup x = some .local := by rfl) (hy : X.env.scope.names.lookup y = some .local := by rfl)
    (hw : swappedStores [.Tuple [.Name x px, .Name y py] kt pt] (.Tuple [a, b] k2 pt2) X.env = pure (some [x, y]) := by rfl)
    (hs : swapsWithSole [.Tuple [.Name x px, .Name y py] kt pt] (.Tuple [a, b] k2 pt2) pos.line X.env = pure false := by rfl) :
    SS X fa W pin (.Assign [.Tuple [.Name x px, .Name y py] kt pt] (.Tuple [a, b] k2 pt2) pos) (tPar i j ta) (sPar ea (put2 pin i j)) :=
  ⟨ps_par hc hN hi hj hij hx hy h.pa hw hs, fun E σ H F D s rr => by
    refine h.ok E σ H F _ s ((rp_sr rr).mono (fun p rr vs H1 F1 f s1 g1 => ?_) fun _ _ z => z)
    split at rr
    · rename_i E' e1
      unfold put2 at e1
      have o := g1.own
      split at e1
      · rename_i d e ed
        split at e1
        · cases e1
        · rename_i hp
          cases e1
          simp only [Bool.or_eq_true, not_or, Bool.not_eq_true] at hp
          rw [ed] at o
          obtain ⟨v, w, g, h', rfl, o1, o2, dj, sg, sh⟩ := owns_2' o
          refine ⟨v, w, rfl, ?_⟩
          have s2 := sims_put (i := i) s1.sim o1 fun a ha => g1.dj a (sg a ha)
          have s3 := sims_put (i := j) s2 o2 fun a ha z => by
            rcases foot_put z with q | q
            · exact g1.dj a (sh a ha) q
            · exact dj a q ha
          refine rr _ H1 _ ⟨s3, s1.fr, fun a z => ?_⟩ ((pn_set hp.1).trans (pn_set hp.2))
          rcases foot_put z with q | q
          · rcases foot_put q with q | q
            · exact s1.ft a q
            · exact g1.new a (sg a q)
          · exact g1.new a (sh a q)
      · cases e1
    · exact rr.elim⟩
theorem ss_par3 (i j l : Nat) {y z : Str} {a b d : Expr} {ta : TA} {px py pz pt : Pos} {kt k2 pt2} {ea : Env → Res (List D × Env)} (hc : X.calm = true) (hN : X.N.Nodup) (h : SEs X fa W [a, b, d] ta ea) (hi : X.N[i]? = some x := by rfl) (hj : X.N[j]? = some y := by rfl) (hl : X.N[l]? = some z := by rfl) (hij : i ≠ j := by decide) (hil : i ≠ l := by decide) (hjl : j ≠ l := by decide)
    (hx : X.env.scope.names.lookup x = some .local := by rfl) (hy : X.env.scope.names.lookup y = some .local := by rfl) (hz : X.env.scope.names.lookup z = some .local := by rfl)
    (hw : swappedStores [.Tuple [.Name x px, .Name y py, .Name z pz] kt pt] (.Tuple [a, b, d] k2 pt2) X.env = pure (some [x, y, z]) := by rfl)
    (hs : swapsWithSole [.Tuple [.Name x px, .Name y py, .Name z pz] kt pt] (.Tuple [a, b, d] k2 pt2) pos.line X.env = pure false := by rfl) :
    SS X fa W pin (.Assign [.Tuple [.Name x px, .Name y py, .Name z pz] kt pt] (.Tuple [a, b, d] k2 pt2) pos) (tPar3 i j l ta) (sPar ea (put3 pin i j l)) :=
  ⟨ps_par3 hc hN hi hj hl hij hil hjl hx hy hz h.pa hw hs, fun E σ H F D s rr => by
    refine h.ok E σ H F _ s ((rp_sr rr).mono (fun p rr vs H1 F1 f s1 g1 => ?_) fun _ _ z => z)
    split at rr
    · rename_i E' e1
      unfold put3 at e1
      have o := g1.own
      split at e1
      · rename_i d0 e0 b0 ed
        split at e1
        · cases e1
        · rename_i hp
          cases e1
          simp only [Bool.or_eq_true, not_or, Bool.not_eq_true] at hp
          rw [ed] at o
          obtain ⟨v, w, u, g, h', k, rfl, o1, o2, o3, d1, d2, d3, sg, sh, sk⟩ := owns_3' o
          refine ⟨v, w, u, rfl, ?_⟩
          have s2 := sims_put (i := i) s1.sim o1 fun a ha => g1.dj a (sg a ha)
          have s3 := sims_put (i := j) s2 o2 fun a ha z => by
            rcases foot_put z with q | q
            · exact g1.dj a (sh a ha) q
            · exact d1 a q ha
          have s4 := sims_put (i := l) s3 o3 fun a ha z => by
            rcases foot_put z with q | q
            · rcases foot_put q with q | q
              · exact g1.dj a (sk a ha) q
              · exact d2 a q ha
            · exact d3 a q ha
          refine rr _ H1 _ ⟨s4, s1.fr, fun a z => ?_⟩ (((pn_set hp.1.1).trans (pn_set hp.1.2)).trans (pn_set hp.2))
          rcases foot_put z with q | q
          · rcases foot_put q with q | q
            · rcases foot_put q with q | q
              · exact s1.ft a q
              · exact g1.new a (sg a q)
            · exact g1.new a (sh a q)
          · exact g1.new a (sk a q)
      · cases e1
    · exact rr.elim⟩
end

/-! ### isinstance(x, T), T a built-in type -/
def tyN : D → Option String
  | .non => some "NoneType"
  | .bl _ => some "bool"
  | .int _ => some "int"
  | .str _ => some "str"
  | .tup _ => some "tuple"
  | .lst _ => some "list"
  | .dK _ _ => some "dict"
  | .dT _ _ => some "dict"
  | _ => none
def oIsi (T : String) (d : D) : Option D := (tyN d).bind fun t => (kitB t T).map .bl
theorem own_ty {c : Cn} {H : Hp} {d : D} {v : V} {f : List Addr} {t : String} (h : tyN d = some t) (o : Own c H d v f) : TyX c.K H v (.type t) := by
  cases d with
  | non => cases h; rw [own_non o]; exact .base .non
  | bl b => cases h; rw [own_bl o]; exact .base (.bl b)
  | int i => cases h; rw [own_int o]; exact .base (.int i)
  | str x => cases h; rw [own_str o]; exact .base (.str x)
  | tup l => cases h; obtain ⟨a, xs, rfl, h1, _⟩ := own_tup o; exact .base (.tup h1)
  | lst l => cases h; obtain ⟨a, xs, g, rfl, h1, _⟩ := own_lst o; exact .base (.lst h1)
  | dK ks l => cases h; simp only [Own] at o; obtain ⟨a, xs, g, rfl, h1, _⟩ := o; exact .base (.dK h1)
  | dT ks l => cases h; obtain ⟨a, xs, g, rfl, h1, _⟩ := own_dT o; exact .base (.dT h1)
  | _ => cases h
theorem sf_isi (T : String) {a : Expr} {ta : TE} {ea : Env → Option D} {x : Str} {p p2 pos : Pos} (hm : X.mg "isinstance" = none) (hmT : X.mg x = none) (hv : bootBuiltins x = some (.type T)) (ha : SB X fa a ta ea) (hg : Gl X "isinstance" := by rfl) (hgT : Gl X x := by rfl) (hn : x ≠ "__name__" := by decide) (hd : (x == ("__debug__" : Str)) = false := by decide)
    (hs : starEach [a, .Name x p2] X.env = (false, eval a X.env) :: starEach [.Name x p2] X.env := by rfl) : SF X fa (.Call (.Name "isinstance" p) [a, .Name x p2] [] pos) (tCB (rIsi X.K) (tCons ta (tCons (tC (.ty T)) tNil))) (b1 (oIsi T) ea) :=
  ⟨pe_callB call_isi hg hm (by decide +kernel) (pa_cons ha.pe (pa_cons (pe_bltn (v := .ty T) hgT hmT hv rfl hn hd) pa_nil rfl) hs) (by decide) (by decide) hs rfl, fun E d g σ H F Q s k => by
    obtain ⟨y, e1, g⟩ := Option.bind_eq_some_iff.mp g
    obtain ⟨t, e2, g⟩ := Option.bind_eq_some_iff.mp g
    obtain ⟨b, e3, rfl⟩ := Option.map_eq_some_iff.mp g
    refine ha.ok E y e1 σ H F _ s fun v H1 f x1 o1 n1 => ⟨v, .ty T, .type t, .type T, b, rfl, .ty T, own_ty e2 o1, kit_ty e3, k _ H1 [] x1 own_mk_bl fun _ z => by cases z⟩⟩
/-! ### sorted of a list of ints -/
def intsOf : List D → Option (List Int)
  | [] => some []
  | .int i :: r => (intsOf r).map (i :: ·)
  | _ => none
theorem owns_intsOf {c : Cn} {H : Hp} : ∀ (l : List D) (xs : List V) (f : List Addr) (ns : List Int), intsOf l = some ns → Owns c H l xs f → xs = ns.map V.int
  | [], xs, f, ns, e, o => by simp only [Owns] at o; cases e; exact o.1
  | d :: r, xs, f, ns, e, o => by
    cases d with
    | int i =>
      simp only [intsOf] at e
      obtain ⟨ns', e1, rfl⟩ := Option.map_eq_some_iff.mp e
      simp only [Owns] at o
      obtain ⟨x, ys, g, h', rfl, h1, h2, _⟩ := o
      rw [own_int h1, owns_intsOf r ys h' ns' e1 h2]; rfl
    | _ => cases e
def srt (ns : List Int) : List Int := ns.mergeSort (fun a b => decide (a ≤ b))
theorem srt_unique {ns ns' : List Int} (p : ns'.Perm ns) (s : ns'.Pairwise (· ≤ ·)) : ns' = srt ns := by
  have h1 : (srt ns).Pairwise (· ≤ ·) := by
    have := List.pairwise_mergeSort (le := fun a b : Int => decide (a ≤ b)) (fun a b c h1 h2 => by simp at *; omega) (fun a b => by simp; omega) ns
    exact this.imp (fun h => by simpa using h)
  have h2 : (srt ns).Perm ns := List.mergeSort_perm ns _
  exact (p.trans h2.symm).eq_of_pairwise (fun a b _ _ h h' => Int.le_antisymm h h') s h1
end
end VS

set_option maxRecDepth 100000
set_option maxHeartbeats 4000000
namespace VS
open PySem L2 PyProof.Rows

def oTupleP : D → Option D := fun d => (oTuple d).bind fun z => if z.pure then some z else none
theorem ok_tupleP {c : Cn} : OpOk1 c (fun v H Q => rTuple c.K [v] H Q) oTupleP := ok_tuple

/-! ### sorted(t), t a tuple of ints -/
section
variable {prog : Program} {w : World} {A : Around} {E : Value → Shared → Prop} {s : Shared}
theorem collect_tup {l : Addr} {vs : List Value} {Q : List Value → Shared → Prop} (hl : s.heap.IsTuple l vs.toArray)
    (h : Q vs { s with heap := (s.heap.push (seqObj "list" #[] 0)).update s.heap.objs.size (Obj.mapSeq (· ++ vs.toArray)) }) (hsz : vs.length ≤ sizeLine) :
    wpAny (model prog w) A (collect (.ref l)) Q E s := by
  obtain ⟨o, ho, hc, n, hd⟩ := id hl
  unfold collect
  refine wpAny_bind (wpAny_runValue (codeAny_builtin entry_proto_collect' ?_))
  show wpAny _ _ (do again (.builtin "list.__iadd__" ⟨[← newList [], .ref l], []⟩)) _ _ s
  refine wpAny_bind (wpAny_newList (wpAny_pure ⟨Code.quiet_builtin _ (by decide +kernel), codeAny_builtin entry_list_iadd' ?_⟩))
  show wpAny _ _ (Builtin.List.listExtendWith (.ref s.heap.objs.size) (.ref l) (.ref s.heap.objs.size)) _ _ { s with heap := s.heap.push (seqObj "list" #[] 0) }
  unfold Builtin.List.listExtendWith
  have ho' : (s.heap.push (seqObj "list" #[] 0)).get? l = some o := Heap.get?_push_of_some _ ho
  refine wpAny_bind (wpAny_typeOf (T := "tuple") ⟨o, ho', hc⟩ ?_)
  have ht : (Value.type "tuple" == Value.type "tuple") = true := by rfl
  rw [if_pos (by rw [ht]; simp)]
  refine wpAny_bind (listItems_at ho' hd ?_)
  refine wpAny_bind (listItems_at (xs := #[]) (n := 0) (Heap.get?_push_size _ rfl) rfl ?_)
  rw [if_neg (by simp)]
  refine wpAny_bind (listUpdate_at (xs := #[]) (n := 0) (Heap.get?_push_size _ rfl) rfl ?_ (Nat.zero_le _) (by show (#[] ++ vs.toArray).size ≤ sizeLine + 1; simp only [Array.size_append, List.size_toArray, List.length_nil]; omega))
  refine wpAny_pure ?_
  show wpAny (model prog w) A (do
      let o ← load s.heap.objs.size
      match o.data with
      | .seq xs _ => pure xs.toList
      | _ => unsupported "internal:collect") Q E { s with heap := (s.heap.push (seqObj "list" #[] 0)).update s.heap.objs.size (Obj.mapSeq (· ++ vs.toArray)) }
  refine wpAny_bind (wpAny_load (get?_update_seq (Heap.get?_push_size _ rfl) _) ?_)
  show wpAny _ _ (pure ((#[] : Array Value) ++ vs.toArray).toList) Q E _
  rw [show ((#[] : Array Value) ++ vs.toArray).toList = vs by simp]
  exact wpAny_pure h
open SrtO in
theorem sorted_ordT {l : Addr} {vs : List Value} {ltv : Value → Value → Bool} {Q : Value → Shared → Prop} (O : Swo ltv) (hl : s.heap.IsTuple l vs.toArray) (hz : vs.length ≤ sizeLine)
    (hS : 2 ≤ vs.length → ∀ (h₁ : Heap) (a : Addr), h₁.get? a = some (seqObj "list" vs.toArray 0) → (∀ b o, s.heap.get? b = some o → b ≠ a ∧ h₁.get? b = some o) → SortableO prog w A.in1.in1 { s with heap := h₁ } a vs ltv)
    (h : ∀ out : List Value, Srtd ltv out → Stb ltv out vs → Q (.ref (s.heap.objs.size + 1)) { s with heap := sortedAll s.heap vs out.toArray }) :
    wpAny (model prog w) A (call (.builtin "sorted") [.ref l]) Q E s := by
  refine Calls.call_function_entry kind_sorted plain_sorted entry_sorted (args_sorted1 _) ?_
  unfold Builtin.«sorted»
  refine wpAny_bind (m := checkCount "sorted" 1 1 _) (wpAny_pure ?_)
  refine wpAny_bind (collect_tup hl ?_ hz)
  refine wpAny_bind (wpAny_newList ?_ hz)
  have hsz : ((s.heap.push (seqObj "list" #[] 0)).update s.heap.objs.size (Obj.mapSeq (· ++ vs.toArray))).objs.size = s.heap.objs.size + 1 := by
    rw [Heap.size_update, size_push']
  have hoL : (((s.heap.push (seqObj "list" #[] 0)).update s.heap.objs.size (Obj.mapSeq (· ++ vs.toArray))).push (seqObj "list" vs.toArray 0)).get? (s.heap.objs.size + 1) = some (seqObj "list" vs.toArray 0) := by
    rw [← hsz]; exact Heap.get?_push_size _ rfl
  have keep : ∀ b o, s.heap.get? b = some o → b ≠ s.heap.objs.size + 1 ∧ (((s.heap.push (seqObj "list" #[] 0)).update s.heap.objs.size (Obj.mapSeq (· ++ vs.toArray))).push (seqObj "list" vs.toArray 0)).get? b = some o := fun b o q => by
    have hlt : b < s.heap.objs.size := Heap.lt_size q
    refine ⟨Nat.ne_of_lt (Nat.lt_succ_of_lt hlt), Heap.get?_push_of_some _ ?_⟩
    rw [Heap.get?_update_ne _ _ _ _ (Nat.ne_of_lt hlt)]
    exact Heap.get?_push_of_some _ q
  show wpAny _ _ _ _ _ { s with heap := ((s.heap.push (seqObj "list" #[] 0)).update s.heap.objs.size (Obj.mapSeq (· ++ vs.toArray))).push (seqObj "list" vs.toArray 0) }
  rw [hsz]
  refine wpAny_bind (wpAny_holding (wpAny_call_entry slot_list_sort ⟨_, hoL, rfl⟩ entry_list_sort (list_sort_ord O hoL hz (fun h2 => hS h2 _ _ hoL keep) fun out hs hb => ⟨_, rfl, ?_⟩) (args_list_sort _)))
  exact wpAny_pure ⟨_, rfl, h out hs hb⟩
end
section
variable {X : Cx} {fa : Nat → Addr} {W : WX}
/-- sorted of a list or a tuple of ints -/
def rSortedLT (K : PySem.W.Frag) : List V → Hp → VK → Prop := fun vs H Q => ∃ (a : Addr) (ns : List Int), vs = [V.ref a] ∧ (SqL K H a (ns.map V.int) ∨ SqT K H a (ns.map V.int)) ∧
  ∀ (ns' : List Int) (p : Addr), ns'.Perm ns → ns'.Pairwise (· ≤ ·) → H p = none → Q (.ref p) (upd H p (.lst (ns'.map V.int)))
theorem cr_sortedLT : CallR X (.builtin "sorted") (rSortedLT X.K) := by
  intro pins s σ H vs us Q I r h
  obtain ⟨a, ns, rfl, hs | hs, q⟩ := h
  · exact cr_sortedI pins s σ H _ us Q I r ⟨a, ns, rfl, hs, q⟩
  · obtain ⟨its, rv, hl, hz⟩ := I.tuple hs
    rw [Vals.ref1 r]
    have hi := rv.ints
    have hl' : s.heap.IsTuple a its.toArray := hl
    refine sorted_ordT SrtO.swo_int hl' (by rw [← rv.length]; exact hz) (fun h2 h₁ a' _ _ => SrtO.ints_sortable hi h2) fun out h1 h2 => ?_
    obtain ⟨k1, k2, k3⟩ := SrtO.ints_out hi h1 h2
    obtain ⟨ep, he'⟩ := PyProof.Rows.sortedAll_at s.heap its out.toArray
    have hlen : ((out.map SrtO.iv).map V.int).length ≤ sizeLine := by
      rw [List.length_map, k2.length_eq]
      rw [List.length_map] at hz
      exact hz
    exact ⟨.ref _, upd H (s.heap.objs.size + 1) (.lst ((out.map SrtO.iv).map V.int)), I.laid (t' := s.toks) (fun _ _ => PyProof.Rows.sortedAll_old) (Nat.le_succ _) ⟨hlen, out, ep, vals_of_ints k1, he'⟩, rfl, q _ _ k2 k3 (I.hok.fresh (Nat.le_succ _))⟩
def oSorted : D → Option D
  | .lst l => (intsOf l).map fun ns => .lst ((srt ns).map .int)
  | .tup l => (intsOf l).map fun ns => .lst ((srt ns).map .int)
  | _ => none
theorem ok_sorted {c : Cn} : OpOk1 c (fun v H Q => rSortedLT c.K [v] H Q) oSorted := by
  intro x d z f H Q o1 h k
  cases d with
  | lst l =>
    obtain ⟨ns, e1, rfl⟩ := Option.map_eq_some_iff.mp h
    obtain ⟨a, xs, g, rfl, h1, h2, _⟩ := own_lst o1
    rw [owns_intsOf l xs _ ns e1 h2] at h1
    refine ⟨a, ns, rfl, .inl (SqL.of h1), fun ns' p pm so hp => ?_⟩
    rw [srt_unique pm so]
    refine k _ _ [p] (Ext.new hp) (own_new_lst hp (owns_ints _)) fun a ha => ?_
    rw [List.mem_singleton] at ha
    rw [ha]; exact hp
  | tup l =>
    obtain ⟨ns, e1, rfl⟩ := Option.map_eq_some_iff.mp h
    obtain ⟨a, xs, rfl, h1, h2⟩ := own_tup o1
    rw [owns_intsOf l xs _ ns e1 h2] at h1
    refine ⟨a, ns, rfl, .inr (SqT.of h1), fun ns' p pm so hp => ?_⟩
    rw [srt_unique pm so]
    refine k _ _ [p] (Ext.new hp) (own_new_lst hp (owns_ints _)) fun a ha => ?_
    rw [List.mem_singleton] at ha
    rw [ha]; exact hp
  | _ => cases h
section
variable {a : Expr} {ta : TE} {p pos : Pos}
theorem sf_sorted {ea : Env → Option D} (hm : X.mg "sorted" = none) (ha : SB X fa a ta ea) (hg : Gl X "sorted" := by rfl) (hs : starEach [a] X.env = (false, eval a X.env) :: starEach [] X.env := by rfl) : SF X fa (.Call (.Name "sorted" p) [a] [] pos) (tCB (rSortedLT X.K) (tCons ta tNil)) (b1 oSorted ea) :=
  sf_b1 (fa := fa) (p := p) (pos := pos) cr_sortedLT ok_sorted (by decide +kernel) hm ha hg hs
theorem se_sorted {ea : Env → Res (D × Env)} (hm : X.mg "sorted" = none) (ha : SE X fa W a ta ea) (hg : Gl X "sorted" := by rfl) (hs : starEach [a] X.env = (false, eval a X.env) :: starEach [] X.env := by rfl) : SE X fa W (.Call (.Name "sorted" p) [a] [] pos) (tCB (rSortedLT X.K) (tCons ta tNil)) (e1 oSorted ea) :=
  se_b1 (fa := fa) (p := p) (pos := pos) cr_sortedLT ok_sorted (by decide +kernel) hm ha hg hs
end

/-! ### list(range(..)) -/
theorem rgV_eq (a b : Int) : L2.rgV a b = rngV a (b - a).toNat := rfl
def lim24 (a b : Int) : Bool := smallR a && smallR b && decide ((b - a).toNat ≤ 16777216)
theorem rgOk_lim {a b : Int} (h : lim24 a b = true) : RgOk a b := by
  unfold lim24 smallR at h
  simp only [Bool.and_eq_true, decide_eq_true_eq] at h
  exact ⟨h.1.1.1, h.1.1.2, h.1.2.1, h.1.2.2, h.2⟩
def fLR1 (ea : Env → Option D) : Env → Option D := fun E => (ea E).bind fun d => match d with
  | .int n => if lim24 0 n then some (.lst (rngs 0 n.toNat)) else none
  | _ => none
def fLR2 (ea eb : Env → Option D) : Env → Option D := fun E => (ea E).bind fun d => (eb E).bind fun e => match d, e with
  | .int m, .int n => if lim24 m n then some (.lst (rngs m (n - m).toNat)) else none
  | _, _ => none
section
variable {a b : Expr} {ta tb : TE} {p pos p2 pos2 : Pos} {ea eb : Env → Option D}
theorem sf_lr1 (hc : X.calm = true) (hm : X.mg "list" = none) (hm2 : X.mg "range" = none) (ha : SB X fa a ta ea) (hg : Gl X "list" := by rfl) (hg2 : Gl X "range" := by rfl)
    (na : starEach [a] X.env = (false, eval a X.env) :: starEach [] X.env := by rfl) (na2 : starEach [.Call (.Name "range" p2) [a] [] pos2] X.env = (false, eval (.Call (.Name "range" p2) [a] [] pos2) X.env) :: starEach [] X.env := by rfl) :
    SF X fa (.Call (.Name "list" p) [.Call (.Name "range" p2) [a] [] pos2] [] pos) (tLstRg (tRg1 ta)) (fLR1 ea) :=
  ⟨pe_listRg hc hg hm (prg_1 hg2 hm2 ha.pe na) na2, fun E d g σ H F Q s k => by
    obtain ⟨x, e1, g⟩ := Option.bind_eq_some_iff.mp g
    split at g
    · rename_i n
      split at g
      · rename_i q
        cases g
        refine ha.ok E _ e1 σ H F _ s fun v H1 f x1 o1 n1 => ⟨n, own_int o1, rgOk_lim q, fun r hr => ?_⟩
        have e0 : L2.rgV 0 n = rngV 0 n.toNat := by rw [rgV_eq, Int.sub_zero]
        rw [e0]
        refine k _ _ [r] (x1.trans (Ext.new hr)) (own_new_lst hr owns_rng) fun a ha => ?_
        rw [List.mem_singleton] at ha
        rw [ha]; exact x1.back hr
      · cases g
    · cases g⟩
theorem sf_lr2 (hc : X.calm = true) (hm : X.mg "list" = none) (hm2 : X.mg "range" = none) (ha : SB X fa a ta ea) (hb : SB X fa b tb eb) (hg : Gl X "list" := by rfl) (hg2 : Gl X "range" := by rfl)
    (na : starEach [a, b] X.env = (false, eval a X.env) :: starEach [b] X.env := by rfl) (nb : starEach [b] X.env = (false, eval b X.env) :: starEach [] X.env := by rfl) (hp : (backTo pos2 (starEach [b] X.env)).any (·.1) = false := by rfl)
    (na2 : starEach [.Call (.Name "range" p2) [a, b] [] pos2] X.env = (false, eval (.Call (.Name "range" p2) [a, b] [] pos2) X.env) :: starEach [] X.env := by rfl) :
    SF X fa (.Call (.Name "list" p) [.Call (.Name "range" p2) [a, b] [] pos2] [] pos) (tLstRg (tRg2 ta tb)) (fLR2 ea eb) :=
  ⟨pe_listRg hc hg hm (prg_2 hg2 hm2 ha.pe hb.pe na nb hp) na2, fun E d g σ H F Q s k => by
    obtain ⟨x, e1, g⟩ := Option.bind_eq_some_iff.mp g
    obtain ⟨y, e2, g⟩ := Option.bind_eq_some_iff.mp g
    split at g
    · rename_i m n _
      split at g
      · rename_i q
        cases g
        refine ha.ok E _ e1 σ H F _ s fun v H1 f x1 o1 n1 => ?_
        refine hb.ok E _ e2 σ H1 F _ (x1.sims s) fun u H2 f' x2 o2 n2 => ⟨m, n, own_int o1, own_int o2, rgOk_lim q, fun r hr => ?_⟩
        refine k _ _ [r] ((x1.trans x2).trans (Ext.new hr)) (own_new_lst hr owns_rng) fun a ha => ?_
        rw [List.mem_singleton] at ha
        rw [ha]; exact x1.back (x2.back hr)
      · cases g
    · cases g⟩
end

/-! ### defs as values -/
theorem fv_of {k m n : Nat} {x : Str} {fn : List D → FR} (c : Cb X.prog X.w X.K X.mg X.base fa k x n fn) (h : X.mg x = some (.ref (fa m))) : Fv X fa k m n fn := by
  obtain ⟨f, fd, ps, F, hm, hk, hb⟩ := c.ex
  rw [h] at hm
  cases hm
  exact ⟨fd, ps, F, hk, hb⟩
end
section
variable {P : Program} {w : World} {K : PySem.W.Frag} {mg : Str → Option Value} {base : Heap} {fa : Nat → Addr}
theorem cb_no {x qual : Str} {st : Stmt} {ps : List Str} {k : Nat} (F : Fd K mg x qual st ps) : Cb P w K mg base fa k x ps.length (fun _ => .no) := by
  obtain ⟨f, fd, Fn, bn, gn⟩ := F.ex
  exact ⟨f, fd, ps, ⟨fun vs H Q E z => z.1, fun A outer s H args us vs Q E _ _ _ _ z => by
    obtain ⟨_, ds, F0, _, r⟩ := z
    exact r.elim⟩, gn, Fn.kp, bn⟩
/-- the law's promise: a script that only may be read gives True -/
def spLaw (K : PySem.W.Frag) (fn : List D → FR) : Sp := fun vs H Q _ => ∃ (a : Addr) (ns : List Int) (o : List (Option D)), vs = [.ref a] ∧ RoL K H a (ns.map V.int) ∧ fn [.rol ns] = .ok (.bl true) o ∧ ∀ H', Q (.bl true) H'
theorem sims_one {c : Cn} {H : Hp} {d : D} {v : V} (o : Own c H d v []) : Sims c H [some d] [some v] (fun _ => []) := by
  refine ⟨rfl, fun i e g => ?_, fun i j d e n g g' a z => by cases z⟩
  rw [gv_some] at g
  match i, g with
  | 0, g => cases g; exact ⟨v, rfl, o⟩
  | i + 1, g => cases g
theorem law_of {k : Nat} {f : Addr} {fd : FuncData} {fn : List D → FR} {ps : List Str} (F : FnOk P w K mg base (L2.CX P w) k f fd ps (spV ⟨K, fa⟩ 1 fn)) (hp : ps.length = 1) : FnOk P w K mg base (L2.CX P w) k f fd ps (spLaw K fn) := by
  refine F.imp fun vs H Q E z => ?_
  obtain ⟨a, ns, o, rfl, h1, h2, q⟩ := z
  refine ⟨rfl, [.rol ns], fun _ => [], sims_one (c := ⟨K, fa⟩) ?_, ?_⟩
  · simp only [Own]
    exact ⟨⟨a, rfl, h1⟩, trivial⟩
  · rw [h2]
    intro v H' g F' _ ov _ _ _
    rw [own_bl ov]
    exact q H'
theorem only_rol {K : PySem.W.Frag} {H : Hp} {a : Addr} {xs : List V} (ho : Only H) (hs : SqL K H a xs) : RoL K H a xs := by
  rcases hs with h | h
  · rcases h with h | ⟨o, h⟩
    · rcases ho a with q | ⟨o, ys, q⟩
      · rw [q] at h; cases h
      · rw [q] at h; cases h
    · exact .inl ⟨o, h⟩
  · exact .inr h
/-- a def, by its body, in a form that unifies at once -/
theorem cb_mk2 {x qual : Str} {st : Stmt} {N ps : List Str} {n nl : Nat} {k : Nat} {pin : Pin} {b : VS.Env → SR} {fn : List D → FR} (F : Fd K mg x qual st ps) (S : FnScope N ps (defScope st)) (hn : ps.length = n) (hl : N.length = nl) (hf : fn = mkF n nl pin b)
    (hb : ∀ (f : Addr) (cdv : Value) (A : Around) (outer : List PySem.Env) (s : Shared) (H : Hp) (E : XK), Room k (A.deeper (PyProof.Rows.envOfC qual (defScope st) s.heap.objs.size f cdv)) →
      ∃ t, SSs (cxOf (L2.CX P w) P w K mg base N qual (defScope st) f cdv A outer s H E) fa (WE0 E) pin (defBody st) t b) : Cb P w K mg base fa (k + 1) x n fn := by
  subst hn hl hf
  exact cb_mk F S hb
theorem fn_mk2 {x qual : Str} {st : Stmt} {f : Addr} {fd : FuncData} {N ps : List Str} {n nl : Nat} {k : Nat} {pin : Pin} {b : VS.Env → SR} {fn : List D → FR} (F : Fun K x qual st f fd) (S : FnScope N ps (defScope st)) (hn : ps.length = n) (hl : N.length = nl) (hf : fn = mkF n nl pin b)
    (hb : ∀ (cdv : Value) (A : Around) (outer : List PySem.Env) (s : Shared) (H : Hp) (E : XK), Room k (A.deeper (PyProof.Rows.envOfC qual (defScope st) s.heap.objs.size f cdv)) →
      ∃ t, SSs (cxOf (L2.CX P w) P w K mg base N qual (defScope st) f cdv A outer s H E) fa (WE0 E) pin (defBody st) t b) : FnOk P w K mg base (L2.CX P w) (k + 1) f fd ps (spV ⟨K, fa⟩ n fn) := by
  subst hn hl hf
  exact fn_vs F S hb
theorem cb_fn {x : Str} {f : Addr} {fd : FuncData} {ps : List Str} {k n : Nat} {fn : List D → FR} (F : FnOk P w K mg base (L2.CX P w) k f fd ps (spV ⟨K, fa⟩ n fn)) (hm : mg x = some (.ref f)) (hk : PySem.W.keepIn K (.ref f) = true) (hb : Binds K fd ps []) : Cb P w K mg base fa k x n fn := ⟨f, fd, ps, F, hm, hk, hb⟩
end
end VS
namespace VS
open PySem L2
section
variable {X : Cx} {fa : Nat → Addr} {W : WX}
theorem SE.te {e : Expr} {t t' : TE} {ev : VS.Env → Res (D × VS.Env)} (h : SE X fa W e t ev) (ht : t = t') : SE X fa W e t' ev := ht ▸ h
theorem SG.te {pin : Pin} {e : Expr} {t t' : TG} {bd : D → VS.Env → Option VS.Env} (h : SG X fa pin e t bd) (ht : t = t') : SG X fa pin e t' bd := ht ▸ h
theorem STs.te {es : List Expr} {t t' : TT} {ev : VS.Env → Res (Bool × VS.Env)} (h : STs X fa es t ev) (ht : t = t') : STs X fa es t' ev := ht ▸ h
end
end VS

set_option maxRecDepth 100000
set_option maxHeartbeats 4000000
namespace VS
open PySem L2

/-! ### reading an evaluator -/
section
variable {α β : Type} {E : Env} {a b : D} {i : Nat}
@[simp] theorem gv_nil {n : Nat} : gv [] n = none := by unfold gv; simp
@[simp] theorem rb_ok {x : α} {k : α → Res β} : (Res.ok x).bind k = k x := rfl
@[simp] theorem rb_no {k : α → Res β} : (Res.no : Res α).bind k = .no := rfl
@[simp] theorem ro_some {x : α} : Res.of (some x) = .ok x := rfl
@[simp] theorem ro_none : (Res.of none : Res α) = .no := rfl
@[simp] theorem ev_sSeq {x y : Env → SR} : sSeq x y E = (x E).bind y := rfl
@[simp] theorem ev_sNil : sNil E = .nx E := rfl
@[simp] theorem ev_sIf {c : Env → Res (Bool × Env)} {x y : Env → SR} : sIf c x y E = (c E).sr fun p => if p.1 then x p.2 else y p.2 := rfl
@[simp] theorem ev_sRet {e : Env → Res (D × Env)} : sRet e E = (e E).sr fun p => .rt p.1 p.2 := rfl
@[simp] theorem ev_sDrop {e : Env → Res (D × Env)} : sDrop e E = (e E).sr fun p => .nx p.2 := rfl
@[simp] theorem ev_eF {e : Env → Option D} : eF e E = Res.of ((e E).map fun d => (d, E)) := rfl
@[simp] theorem ev_bV : bV i E = gv E i := rfl
@[simp] theorem ev_bC : bC a E = some a := rfl
theorem ev_bP {e : Env → Option D} {d : D} (h : e E = some d) (p : d.pure = true) : bP e E = some d := by unfold bP; rw [h]; simp [p]
@[simp] theorem ev_bP' {e : Env → Option D} : bP e E = (e E).bind fun d => if d.pure then some d else none := by unfold bP; cases e E <;> simp
@[simp] theorem ev_b2 {o : D → D → Option D} {x y : Env → Option D} : b2 o x y E = (x E).bind fun p => (y E).bind fun q => o p q := rfl
@[simp] theorem ev_b1 {o : D → Option D} {x : Env → Option D} : b1 o x E = (x E).bind o := rfl
@[simp] theorem ev_e2 {o : D → D → Option D} {x y : Env → Res (D × Env)} : e2 o x y E = (x E).bind fun p => (y p.2).bind fun q => Res.of ((o p.1 q.1).map fun z => (z, q.2)) := rfl
@[simp] theorem ev_e1 {o : D → Option D} {x : Env → Res (D × Env)} : e1 o x E = (x E).bind fun p => Res.of ((o p.1).map fun z => (z, p.2)) := rfl
@[simp] theorem ev_eMov : eMov i E = Res.of ((gv E i).map fun d => (d, E.set i none)) := rfl
@[simp] theorem ev_fNil : fNil E = some [] := rfl
@[simp] theorem ev_fCons {x : Env → Option D} {r : Env → Option (List D)} : fCons x r E = (x E).bind fun d => (r E).bind fun l => some (d :: l) := rfl
@[simp] theorem ev_eNil : eNil E = .ok ([], E) := rfl
@[simp] theorem ev_eCons {x : Env → Res (D × Env)} {r : Env → Res (List D × Env)} : eCons x r E = (x E).bind fun p => (r p.2).bind fun q => .ok (p.1 :: q.1, q.2) := rfl
@[simp] theorem ev_fTup {x : Env → Option (List D)} : fTup x E = (x E).map .tup := rfl
@[simp] theorem ev_fLst {x : Env → Option (List D)} : fLst x E = (x E).map .lst := rfl
@[simp] theorem ev_eTup {x : Env → Res (List D × Env)} : eTup x E = (x E).bind fun p => .ok (.tup p.1, p.2) := rfl
@[simp] theorem ev_eLst {x : Env → Res (List D × Env)} : eLst x E = (x E).bind fun p => .ok (.lst p.1, p.2) := rfl
@[simp] theorem ev_fIf {c : Env → Option Bool} {x y : Env → Option D} : fIf c x y E = (c E).bind fun t => if t then x E else y E := rfl
@[simp] theorem ev_eIf {c : Env → Res (Bool × Env)} {x y : Env → Res (D × Env)} : eIf c x y E = (c E).bind fun p => if p.1 then x p.2 else y p.2 := rfl
@[simp] theorem ev_pT {c : Env → Option Bool} : pT c E = Res.of ((c E).map fun t => (t, E)) := rfl
@[simp] theorem ev_pNot {c : Env → Option Bool} : pNot c E = (c E).map fun t => !t := rfl
@[simp] theorem ev_pNotE {c : Env → Res (Bool × Env)} : pNotE c E = (c E).bind fun p => .ok (!p.1, p.2) := rfl
@[simp] theorem ev_pAnd {x y : Env → Res (Bool × Env)} : pAnd x y E = (x E).bind fun p => if p.1 then y p.2 else .ok (false, p.2) := rfl
@[simp] theorem ev_pOr {x y : Env → Res (Bool × Env)} : pOr x y E = (x E).bind fun p => if p.1 then .ok (true, p.2) else y p.2 := rfl
@[simp] theorem ev_tYes : tYesE E = .ok (true, E) := rfl
@[simp] theorem ev_sAsg {e : Env → Res (D × Env)} {bd : D → Env → Option Env} : sAsg e bd E = (e E).sr fun p => match bd p.1 p.2 with
  | some E' => .nx E'
  | none => .no := rfl
@[simp] theorem ev_sPar {e : Env → Res (List D × Env)} {bd : List D → Env → Option Env} : sPar e bd E = (e E).sr fun p => match bd p.1 p.2 with
  | some E' => .nx E'
  | none => .no := rfl
@[simp] theorem ev_bName {pin : Pin} : bName pin i a E = if pin i then none else some (E.set i (some a)) := rfl
@[simp] theorem ev_eCall {f : List D → FR} {x : Env → Res (List Arg × Env)} : eCall f x E = (x E).bind fun p => if uniqA p.1 then match valsA p.1 p.2 with
    | some ds => (match f ds with
      | .ok d o => .ok (d, giveA p.1 o (wipeE p.2 (lentOf p.1)))
      | .exc y o => .exc y (giveA p.1 o (wipeE p.2 (lentOf p.1)))
      | .no => .no)
    | none => .no
  else .no := rfl
@[simp] theorem ev_aNil : aNil E = .ok ([], E) := rfl
@[simp] theorem ev_aOwn {x : Env → Res (D × Env)} {r : Env → Res (List Arg × Env)} : aOwn x r E = (x E).bind fun p => (r p.2).bind fun q => .ok (.o p.1 :: q.1, q.2) := rfl
theorem ev_aLend {r : Env → Res (List Arg × Env)} : aLend i r E = match gv E i with
  | some _ => (r E).bind fun q => .ok (.l i :: q.1, q.2)
  | none => .no := rfl
@[simp] theorem ev_aLend' {r : Env → Res (List Arg × Env)} {d : D} (h : gv E i = some d) : aLend i r E = (r E).bind fun q => .ok (.l i :: q.1, q.2) := by unfold aLend; rw [h]
theorem sIx {l : List D} {i : Nat} {d : D} (h : l[i]? = some d) : oIx (.tup l) (.int i) = some d := by
  obtain ⟨hl, _⟩ := List.getElem?_eq_some_iff.mp h
  show atI l (i : Int) = some d
  refine atI_of (j := i) ?_ h
  unfold ixN
  simp; omega
end
/-! ### the shape of a call's outs -/
@[simp] theorem outs_1 {pin : Pin} {E : Env} : outs pin 1 E = [if pin 0 then gv E 0 else none] := rfl
@[simp] theorem outs_2 {pin : Pin} {E : Env} : outs pin 2 E = [if pin 0 then gv E 0 else none, if pin 1 then gv E 1 else none] := rfl
@[simp] theorem outs_3 {pin : Pin} {E : Env} : outs pin 3 E = [if pin 0 then gv E 0 else none, if pin 1 then gv E 1 else none, if pin 2 then gv E 2 else none] := rfl
@[simp] theorem outs_4 {pin : Pin} {E : Env} : outs pin 4 E = [if pin 0 then gv E 0 else none, if pin 1 then gv E 1 else none, if pin 2 then gv E 2 else none, if pin 3 then gv E 3 else none] := rfl
/-- what a body's end makes of a call -/
def frOf (pin : Pin) (np : Nat) : SR → FR
  | .rt d E => .ok d (outs pin np E)
  | .nx E => .ok .non (outs pin np E)
  | .exc x E => .exc x (outs pin np E)
  | _ => .no
theorem mkF_eq {np nl : Nat} {pin : Pin} {b : Env → SR} {ds : List D} (h : ds.length = np) : mkF np nl pin b ds = frOf pin np (b (ds.map some ++ List.replicate (nl - np) none)) := by
  unfold mkF
  rw [if_pos h]
  cases b (ds.map some ++ List.replicate (nl - np) none) <;> rfl
@[simp] theorem frOf_rt {pin : Pin} {np : Nat} {d : D} {E : Env} : frOf pin np (.rt d E) = .ok d (outs pin np E) := rfl
@[simp] theorem frOf_nx {pin : Pin} {np : Nat} {E : Env} : frOf pin np (.nx E) = .ok .non (outs pin np E) := rfl

/-! ### operators on what is known -/
section
variable {i j : Int} {b : Bool} {l r : List D} {a c d e : D} {E : Env}
@[simp] theorem oI_int {p : Int → Int → Bool} {g : Int → Int → D} : oI p g (.int i) (.int j) = if p i j then some (g i j) else none := rfl
@[simp] theorem oSub_int : oSub (.int i) (.int j) = some (.int (i - j)) := rfl
@[simp] theorem oAdd_int : oAdd (.int i) (.int j) = some (.int (i + j)) := rfl
@[simp] theorem oLt_int : oLt (.int i) (.int j) = some (.bl (decide (i < j))) := rfl
@[simp] theorem oLe_int : oLe (.int i) (.int j) = some (.bl (decide (i ≤ j))) := rfl
@[simp] theorem oGt_int : oGt (.int i) (.int j) = some (.bl (decide (j < i))) := rfl
@[simp] theorem oGe_int : oGe (.int i) (.int j) = some (.bl (decide (j ≤ i))) := rfl
theorem oMod_int (h : 0 < j) : oMod (.int i) (.int j) = some (.int (i % j)) := by simp [oMod, h]
theorem oDiv_int (h : 0 < j) (h2 : j < 1073741824) : oDiv (.int i) (.int j) = some (.int (i / j)) := by simp [oDiv, divOk, h, h2]
theorem oMul_int (h : -(2 ^ 64) < i ∧ i < 2 ^ 64 ∨ -(2 ^ 64) < j ∧ j < 2 ^ 64) : oMul (.int i) (.int j) = some (.int (i * j)) := by
  unfold oMul
  rw [oI_int, if_pos]
  unfold mulOk small64
  rcases h with h | h
  · have h1 := h.1
    have h2 := h.2
    simp at h1 h2
    simp [h1, h2]
  · have h1 := h.1
    have h2 := h.2
    simp at h1 h2
    simp [h1, h2]
theorem oMulL {i : Int} (h1 : -(2 ^ 64) < i := by decide) (h2 : i < 2 ^ 64 := by decide) : oMul (.int i) (.int j) = some (.int (i * j)) := oMul_int (.inl ⟨h1, h2⟩)
theorem oMulR {j : Int} (h1 : -(2 ^ 64) < j := by decide) (h2 : j < 2 ^ 64 := by decide) : oMul (.int i) (.int j) = some (.int (i * j)) := oMul_int (.inr ⟨h1, h2⟩)
@[simp] theorem oInt_int : oInt (.int i) = some (.int i) := rfl
@[simp] theorem oInt_bl : oInt (.bl b) = some (.int (if b then 1 else 0)) := rfl
@[simp] theorem oAbs_int : oAbs (.int i) = some (.int (if i < 0 then -i else i)) := rfl
@[simp] theorem oLen_lst : oLen (.lst l) = some (.int l.length) := rfl
@[simp] theorem oLen_tup : oLen (.tup l) = some (.int l.length) := rfl
theorem atI_at {α : Type} {l : List α} {n : Nat} {x : α} (h : l[n]? = some x) : atI l (n : Int) = some x := by
  obtain ⟨hl, _⟩ := List.getElem?_eq_some_iff.mp h
  refine atI_of (j := n) ?_ h
  unfold ixN
  simp; omega
@[simp] theorem ixL0 : oIx (.lst (a :: l)) (.int 0) = some a := atI_at (n := 0) rfl
@[simp] theorem ixL1 : oIx (.lst (a :: c :: l)) (.int 1) = some c := atI_at (n := 1) rfl
@[simp] theorem ixL2 : oIx (.lst (a :: c :: d :: l)) (.int 2) = some d := atI_at (n := 2) rfl
@[simp] theorem ixL3 : oIx (.lst (a :: c :: d :: e :: l)) (.int 3) = some e := atI_at (n := 3) rfl
@[simp] theorem ixT0 : oIx (.tup (a :: l)) (.int 0) = some a := atI_at (n := 0) rfl
@[simp] theorem ixT1 : oIx (.tup (a :: c :: l)) (.int 1) = some c := atI_at (n := 1) rfl
@[simp] theorem ixT2 : oIx (.tup (a :: c :: d :: l)) (.int 2) = some d := atI_at (n := 2) rfl
@[simp] theorem ixT3 : oIx (.tup (a :: c :: d :: e :: l)) (.int 3) = some e := atI_at (n := 3) rfl
theorem ixL {n : Nat} {x : D} (h : l[n]? = some x) : oIx (.lst l) (.int (n : Int)) = some x := atI_at h
theorem ixT {n : Nat} {x : D} (h : l[n]? = some x) : oIx (.tup l) (.int (n : Int)) = some x := atI_at h
@[simp] theorem pure_int : (D.int i).pure = true := rfl
@[simp] theorem pure_bl : (D.bl b).pure = true := rfl
@[simp] theorem pure_non : D.non.pure = true := rfl
@[simp] theorem pure_tup : (D.tup l).pure = pures l := by simp [D.pure]
@[simp] theorem pures_nil : pures [] = true := by simp [pures]
@[simp] theorem pures_cons : pures (a :: l) = (a.pure && pures l) := by simp [pures]
@[simp] theorem pures_ints {ns : List Int} : pures (ns.map .int) = true := by
  induction ns with
  | nil => simp
  | cons i r ih => simp [ih]
/-- truth -/
def pbD (d : D) : Option Bool := pB (fun _ => some d) []
@[simp] theorem ev_pB {ea : Env → Option D} : pB ea E = (ea E).bind pbD := by
  unfold pbD pB
  cases ea E <;> rfl
@[simp] theorem pbD_bl : pbD (.bl b) = some b := rfl
def peD (d : D) : Option Bool := match pE (fun _ => .ok (d, [])) [] with
  | .ok p => some p.1
  | _ => none
theorem ev_pE_bl {ea : Env → Res (D × Env)} {E' : Env} (h : ea E = .ok (.bl b, E')) : pE ea E = .ok (b, E') := by
  unfold pE
  rw [h]; rfl
@[simp] theorem setL_var {q : Nat} {ei : Env → Option D} {ee : Env → Res (D × Env)} : sSetL q lVar ei ee E = (ee E).sr fun p => match (gv p.2 q), ei p.2 with
    | some (.lst l), some (.int i) => (match (ixN l.length i) with
      | some j => .nx (p.2.set q (some (.lst (l.set j p.1))))
      | none => .no)
    | _, _ => .no := by
  unfold sSetL lVar
  cases ee E with
  | ok p =>
    simp only [Res.sr_ok, Option.bind_some]
    cases h : gv p.2 q with
    | none => rfl
    | some d =>
      cases d with
      | lst l =>
        simp only [Option.bind_some, atD]
        cases h2 : ei p.2 with
        | none => rfl
        | some y =>
          cases y with
          | int k =>
            simp only
            cases ixN l.length k <;> rfl
          | _ => rfl
      | _ => simp only [Option.bind_some, atD]
  | exc x E' => rfl
  | no => rfl
end

/-! ### comprehensions and loops, by an invariant -/
section
variable {bd : D → Env → Option Env} {et : Env → Res (Bool × Env)} {ee : Env → Res (D × Env)} {own : List Nat}
theorem lcL_inv {T : Type} (f : T → D) (I : Env → Prop) (R : D → T → Prop) : ∀ (ds acc : List D) (E : Env), I E → (∀ d ∈ ds, ∀ E, I E → ∃ E1 E2 E3 x, bd d E = some E1 ∧ et E1 = .ok (true, E2) ∧ ee E2 = .ok (f x, E3) ∧ R d x ∧ I (wipeE E3 own)) → acc.length + ds.length ≤ LIM →
    ∃ (xs : List T) (E' : Env), lcL bd et ee own ds acc E = .ok (acc ++ xs.map f, E') ∧ I E' ∧ xs.length = ds.length ∧ ∀ (i : Nat) d x, ds[i]? = some d → xs[i]? = some x → R d x
  | [], acc, E, hI, _, _ => ⟨[], E, by simp [lcL], hI, rfl, fun i d x h => by simp at h⟩
  | d :: r, acc, E, hI, h, hl => by
    obtain ⟨E1, E2, E3, x, h1, h2, h3, h4, h5⟩ := h d (by simp) E hI
    obtain ⟨xs, E', g1, g2, g3, g4⟩ := lcL_inv f I R r (acc ++ [f x]) (wipeE E3 own) h5 (fun y hy => h y (by simp [hy])) (by simp at hl ⊢; omega)
    refine ⟨x :: xs, E', ?_, g2, by simp [g3], fun i y z hy hz => ?_⟩
    · unfold lcL
      rw [h1]
      simp only [Res.of_some, Res.bind_ok, h2, noX_ok, if_true, h3]
      rw [if_pos (by simp at hl; omega), g1]
      simp
    · cases i with
      | zero => simp at hy hz; subst hy; subst hz; exact h4
      | succ i => exact g4 i y z (by simpa using hy) (by simpa using hz)
/-- with a test: some are kept -/
theorem lcL_some {T : Type} (f : T → D) (I : Env → Prop) (R : T → Prop) : ∀ (ds acc : List D) (E : Env), I E → (∀ d ∈ ds, ∀ E, I E → ∃ E1 E2 b, bd d E = some E1 ∧ et E1 = .ok (b, E2) ∧ (b = true → ∃ E3 x, ee E2 = .ok (f x, E3) ∧ R x ∧ I (wipeE E3 own)) ∧ (b = false → I (wipeE E2 own))) → acc.length + ds.length ≤ LIM →
    ∃ (xs : List T) (E' : Env), lcL bd et ee own ds acc E = .ok (acc ++ xs.map f, E') ∧ I E' ∧ xs.length ≤ ds.length ∧ ∀ x ∈ xs, R x
  | [], acc, E, hI, _, _ => ⟨[], E, by simp [lcL], hI, Nat.le_refl _, fun x h => by simp at h⟩
  | d :: r, acc, E, hI, h, hl => by
    obtain ⟨E1, E2, b, h1, h2, h3, h4⟩ := h d (by simp) E hI
    cases b with
    | true =>
      obtain ⟨E3, x, h5, h6, h7⟩ := h3 rfl
      obtain ⟨xs, E', g1, g2, g3, g4⟩ := lcL_some f I R r (acc ++ [f x]) (wipeE E3 own) h7 (fun y hy => h y (by simp [hy])) (by simp at hl ⊢; omega)
      refine ⟨x :: xs, E', ?_, g2, by simp; omega, fun y hy => ?_⟩
      · unfold lcL
        rw [h1]
        simp only [Res.of_some, Res.bind_ok, h2, noX_ok, if_true, h5]
        rw [if_pos (by simp at hl; omega), g1]
        simp
      · rcases List.mem_cons.mp hy with rfl | hy
        · exact h6
        · exact g4 y hy
    | false =>
      obtain ⟨xs, E', g1, g2, g3, g4⟩ := lcL_some f I R r acc (wipeE E2 own) (h4 rfl) (fun y hy => h y (by simp [hy])) (by simp at hl ⊢; omega)
      refine ⟨xs, E', ?_, g2, by simp; omega, g4⟩
      unfold lcL
      rw [h1]
      simp only [Res.of_some, Res.bind_ok, h2, noX_ok]
      exact g1
/-- pure, the names as before -/
theorem lcL_pure {T U : Type} (e : U → D) (f : T → D) (p : U → Bool) (g : U → T) {E : Env} : ∀ (us : List U) (acc : List D), (∀ u ∈ us, ∃ E1 E2, bd (e u) E = some E1 ∧ et E1 = .ok (p u, E2) ∧ (p u = true → ∃ E3, ee E2 = .ok (f (g u), E3) ∧ wipeE E3 own = E) ∧ (p u = false → wipeE E2 own = E)) → acc.length + us.length ≤ LIM →
    lcL bd et ee own (us.map e) acc E = .ok (acc ++ ((us.filter p).map fun u => f (g u)), E)
  | [], acc, _, _ => by simp [lcL]
  | u :: r, acc, h, hl => by
    obtain ⟨E1, E2, h1, h2, h3, h4⟩ := h u (by simp)
    unfold lcL
    rw [List.map_cons]
    simp only
    rw [h1]
    simp only [Res.of_some, Res.bind_ok, h2, noX_ok]
    cases hp : p u with
    | true =>
      obtain ⟨E3, h5, h6⟩ := h3 hp
      simp only [if_true, h5, noX_ok, Res.bind_ok]
      rw [if_pos (by simp at hl; omega), h6, lcL_pure e f p g r _ (fun y hy => h y (by simp [hy])) (by simp at hl ⊢; omega)]
      simp [hp]
    | false =>
      simp only [Bool.false_eq_true, if_false]
      rw [h4 hp, lcL_pure e f p g r _ (fun y hy => h y (by simp [hy])) (by simp at hl ⊢; omega)]
      simp [hp]
theorem lcL_map {T U : Type} (e : U → D) (f : T → D) (g : U → T) {E : Env} (us : List U) (h : ∀ u ∈ us, ∃ E1 E2 E3, bd (e u) E = some E1 ∧ et E1 = .ok (true, E2) ∧ ee E2 = .ok (f (g u), E3) ∧ wipeE E3 own = E) (hl : us.length ≤ LIM) :
    lcL bd et ee own (us.map e) [] E = .ok (us.map fun u => f (g u), E) := by
  have := lcL_pure (bd := bd) (et := et) (ee := ee) (own := own) e f (fun _ => true) g (E := E) us [] (fun u hu => by
    obtain ⟨E1, E2, E3, h1, h2, h3, h4⟩ := h u hu
    exact ⟨E1, E2, h1, h2, fun _ => ⟨E3, h3, h4⟩, fun z => by cases z⟩) (by simpa using hl)
  rw [this, List.filter_eq_self.mpr (fun _ _ => rfl), List.nil_append]
/-- a for, by an invariant of the names -/
theorem forL_fold {S U : Type} {b : Env → SR} (e : U → D) (f : S → U → S) (I : S → Env → Prop) : ∀ (us : List U) (s : S) (E : Env), I s E → (∀ u ∈ us, ∀ s E, I s E → ∃ E1 E2, bd (e u) E = some E1 ∧ (b E1 = .nx E2 ∨ b E1 = .ct E2) ∧ I (f s u) E2) →
    ∃ E', forL bd b (us.map e) E = .nx E' ∧ I (us.foldl f s) E'
  | [], s, E, h, _ => ⟨E, rfl, h⟩
  | u :: r, s, E, h, k => by
    obtain ⟨E1, E2, h1, h2, h3⟩ := k u (by simp) s E h
    obtain ⟨E', g1, g2⟩ := forL_fold e f I r _ E2 h3 fun x hx => k x (by simp [hx])
    refine ⟨E', ?_, g2⟩
    show (match bd (e u) E with | some E1 => loopK (b E1) (forL bd b (r.map e)) | none => .no) = _
    rw [h1]
    simp only
    rcases h2 with h2 | h2
    · rw [h2]; exact g1
    · rw [h2]; exact g1
end
theorem nat_le_int {n : Nat} (h : n ≤ 1000000) : (n : Int) ≤ 1000000 := by omega
theorem int_lim : (1000000 : Int) < 2 ^ 62 := by decide
theorem int_lim0 : (-(2 ^ 62) : Int) ≤ 0 := by decide
theorem smallR_nat {n : Nat} (h : n ≤ 1000000) : smallR (n : Int) = true := by
  have h1 : (-(2 ^ 62) : Int) ≤ (n : Int) := Int.le_trans int_lim0 (Int.natCast_nonneg n)
  have h2 : (n : Int) < 2 ^ 62 := Int.lt_of_le_of_lt (nat_le_int h) int_lim
  unfold smallR
  rw [decide_eq_true h1, decide_eq_true h2]
  rfl
def nD (n : Nat) : D := .int (n : Int)
theorem rngs_nD (n : Nat) : rngs 0 n = (List.range n).map nD := by
  unfold rngs nD
  simp
theorem iR1_int {ea : Env → Res (List D × Env)} {E E' : Env} {i : Int} (h : ea E = .ok ([.int i], E')) (hn : smallR i = true) : iR1 ea E = .ok (rngs 0 i.toNat, E') := by
  unfold iR1
  rw [h]
  show (if smallR i = true then Res.ok (rngs 0 i.toNat, E') else Res.no) = _
  rw [if_pos hn]
theorem iR1_nD {ea : Env → Res (List D × Env)} {E E' : Env} {n : Nat} (h : ea E = .ok ([.int (n : Int)], E')) (hn : n ≤ 1000000) : iR1 ea E = .ok ((List.range n).map nD, E') := by
  rw [iR1_int h (smallR_nat hn), ← rngs_nD]
  rfl
@[simp] theorem isL_o {i : Nat} {d : D} : isL i (.o d) = false := rfl
@[simp] theorem isL_l {i j : Nat} : isL i (.l j) = (j == i) := rfl
@[simp] theorem uniqA_nil : uniqA [] = true := rfl
@[simp] theorem uniqA_o {d : D} {r : List Arg} : uniqA (.o d :: r) = uniqA r := rfl
@[simp] theorem uniqA_l {i : Nat} {r : List Arg} : uniqA (.l i :: r) = (!(r.any (isL i)) && uniqA r) := rfl
@[simp] theorem lentOf_nil : lentOf [] = [] := rfl
@[simp] theorem lentOf_o {d : D} {r : List Arg} : lentOf (.o d :: r) = lentOf r := rfl
@[simp] theorem lentOf_l {i : Nat} {r : List Arg} : lentOf (.l i :: r) = i :: lentOf r := rfl
@[simp] theorem valsA_nil {E : Env} : valsA [] E = some [] := rfl
@[simp] theorem valsA_o {d : D} {r : List Arg} {E : Env} : valsA (.o d :: r) E = (valsA r E).map (d :: ·) := rfl
@[simp] theorem valsA_l {i : Nat} {r : List Arg} {E : Env} : valsA (.l i :: r) E = (gv E i).bind fun d => (valsA r E).map (d :: ·) := rfl
@[simp] theorem giveA_l {i : Nat} {r : List Arg} {o : Option D} {os : List (Option D)} {E : Env} : giveA (.l i :: r) (o :: os) E = giveA r os (E.set i o) := rfl
@[simp] theorem giveA_o {d : D} {r : List Arg} {o : Option D} {os : List (Option D)} {E : Env} : giveA (.o d :: r) (o :: os) E = giveA r os E := rfl
@[simp] theorem giveA_nil {os : List (Option D)} {E : Env} : giveA [] os E = E := rfl
@[simp] theorem wipeE_nil {E : Env} : wipeE E [] = E := rfl
@[simp] theorem wipeE_cons {i : Nat} {r : List Nat} {E : Env} : wipeE E (i :: r) = (wipeE E r).set i none := rfl
end VS

set_option maxRecDepth 100000
set_option maxHeartbeats 4000000
namespace VS
open PySem L2
@[simp] theorem shaped_int (i : Int) : SeqAt.shaped (.int i) = true := by simp [SeqAt.shaped, PyData.canLay0, PyData.depth]
@[simp] theorem shaped_bool (b : Bool) : SeqAt.shaped (.bool b) = true := by simp [SeqAt.shaped, PyData.canLay0, PyData.depth]
@[simp] theorem shaped_none : SeqAt.shaped .none = true := by simp [SeqAt.shaped, PyData.canLay0, PyData.depth]
theorem toPs_ints : ∀ l : List Int, toPs (l.map D.int) = some (l.map PyData.int)
  | [] => by simp [toPs]
  | i :: r => by simp [toPs, D.toP, toPs_ints r]
theorem toPs_nD (l : List Nat) : toPs (l.map nD) = some (l.map fun n : Nat => PyData.int (n : Int)) := by
  have := toPs_ints (l.map fun n : Nat => (n : Int))
  rw [List.map_map, List.map_map] at this
  exact this
theorem lay_ints : ∀ l : List Int, PyData.canLayAll0 (l.map PyData.int) = true
  | [] => by simp [PyData.canLayAll0]
  | i :: r => by simp [PyData.canLayAll0, PyData.canLay0, lay_ints r]
theorem dep_ints : ∀ l : List Int, PyData.depthAll (l.map PyData.int) = 0
  | [] => by simp [PyData.depthAll]
  | i :: r => by simp [PyData.depthAll, PyData.depth, dep_ints r]
theorem shaped_ints (l : List Int) : SeqAt.shaped (.tuple (l.map .int)) = true := by simp [SeqAt.shaped, PyData.canLay0, PyData.depth, lay_ints, dep_ints]
theorem eqv_ints : ∀ l m : List Int, PyData.eqvAll (l.map PyData.int) (m.map PyData.int) = decide (l = m)
  | [], [] => by simp [PyData.eqvAll]
  | [], _ :: _ => by simp [PyData.eqvAll]
  | _ :: _, [] => by simp [PyData.eqvAll]
  | a :: l, b :: m => by
    simp only [List.map_cons, PyData.eqvAll, PyData.eqv, eqv_ints l m]
    by_cases h : a = b <;> by_cases h2 : l = m <;> simp [h, h2]
@[simp] theorem eqD_int (i j : Int) : eqD (.int i) (.int j) = some (decide (i = j)) := by
  simp only [eqD, D.toP, shaped_int, Bool.and_self, if_true, PyData.eqv]
  congr 1
@[simp] theorem oEq_int (i j : Int) : oEq (.int i) (.int j) = some (.bl (decide (i = j))) := by simp [oEq]
@[simp] theorem oNe_int (i j : Int) : oNe (.int i) (.int j) = some (.bl (!decide (i = j))) := by simp [oNe]
theorem oEq_nD (i j : Nat) : oEq (nD i) (nD j) = some (.bl (decide (i = j))) := by
  unfold nD
  rw [oEq_int]
  congr 2
  exact decide_eq_decide.mpr ⟨fun h => by omega, fun h => by omega⟩
theorem eqD_nT (l m : List Nat) : eqD (.tup (l.map nD)) (.tup (m.map nD)) = some (decide (l = m)) := by
  have e : ∀ l : List Nat, (l.map fun n : Nat => PyData.int (n : Int)) = (l.map fun n : Nat => (n : Int)).map PyData.int := fun l => by simp
  have inj : ((l.map fun n : Nat => (n : Int)) = m.map fun n : Nat => (n : Int)) ↔ l = m := by
    constructor
    · intro h
      have := congrArg (List.map Int.toNat) h
      simpa [Function.comp_def] using this
    · rintro rfl; rfl
  simp only [eqD, D.toP, toPs_nD, Option.map_some, e, shaped_ints, Bool.and_self, if_true, PyData.eqv, eqv_ints]
  congr 1
  exact decide_eq_decide.mpr inj
theorem eqV_int (i j : Int) : eqV (.int i) (.int j) = (i == j) := rfl
theorem flat_nD : ∀ l : List Nat, (l.map nD).all D.flat = true
  | [] => rfl
  | a :: r => by rw [List.map_cons, List.all_cons, flat_nD r]; rfl
theorem inV_nD (x : Nat) : ∀ l : List Nat, inV (nD x).v ((l.map nD).map D.v) = l.contains x
  | [] => rfl
  | a :: r => by
    have := inV_nD x r
    unfold inV at this ⊢
    rw [List.map_cons, List.map_cons, List.any_cons, this, List.contains_cons]
    congr 1
    show ((a : Int) == (x : Int)) = (x == a)
    by_cases h : x = a
    · subst h; simp
    · have h2 : ¬ ((a : Int) = (x : Int)) := by omega
      rw [beq_eq_false_iff_ne.mpr h2, beq_eq_false_iff_ne.mpr h]
theorem oIn_tup (neg : Bool) (x : Nat) (l : List Nat) : oIn neg (nD x) (.tup (l.map nD)) = some (.bl (if neg then !l.contains x else l.contains x)) := by
  unfold oIn seqOf
  simp only [Option.bind_some, flat_nD, Bool.and_true, inV_nD]
  rw [if_pos (show (nD x).flat = true from rfl)]
theorem oIn_lst (neg : Bool) (x : Nat) (l : List Nat) : oIn neg (nD x) (.lst (l.map nD)) = some (.bl (if neg then !l.contains x else l.contains x)) := by
  unfold oIn seqOf
  simp only [Option.bind_some, flat_nD, Bool.and_true, inV_nD]
  rw [if_pos (show (nD x).flat = true from rfl)]
theorem blsOf_map {T : Type} (f : T → Bool) : ∀ l : List T, blsOf (l.map fun x => .bl (f x)) = some (l.map f)
  | [] => rfl
  | a :: r => by
    show (blsOf (r.map fun x => .bl (f x))).map (f a :: ·) = _
    rw [blsOf_map f r]; rfl
end VS

set_option maxRecDepth 100000
set_option maxHeartbeats 400000
namespace K91
open PySem L2 VS

def topS (i : Nat) : Stmt := PySem.Challenge.pw_carriedstakes_k91_parting_rows.main.body.getD i (.Pass ⟨0, 0, 0, 0⟩)
def FUEL : Nat := 100000
structure Mg (mg : Str → Option Value) (fa : Nat → Addr) : Prop where
  m_abs : mg "abs" = none
  m_all : mg "all" = none
  m_any : mg "any" = none
  m_bool : mg "bool" = none
  m_int : mg "int" = none
  m_isinstance : mg "isinstance" = none
  m_len : mg "len" = none
  m_list : mg "list" = none
  m_range : mg "range" = none
  m_sorted : mg "sorted" = none
  m_tuple : mg "tuple" = none
  fv_are_unlike : mg "are_unlike" = some (.ref (fa 0))
  fv_lacks_some : mg "lacks_some" = some (.ref (fa 1))
section
variable {P : Program} {w : World} {K : PySem.W.Frag} {mg : Str → Option Value} {base : Heap} {fa : Nat → Addr}
abbrev s_law_begin : Stmt := topS 7
abbrev N_law_begin : List Str := ["script", "cell"]
abbrev ps_law_begin : List Str := ["script"]
theorem sc_law_begin : FnScope N_law_begin ps_law_begin (defScope s_law_begin) := ⟨rfl, rfl, rfl, by decide +kernel, rfl, by decide +kernel, by decide +kernel⟩
def pin_law_begin : Pin := fun j => ([] : List Nat).contains j
abbrev b_law_begin_1 : VS.Env → Res (D × VS.Env) := (eF (b1 oInt (bV 1)))
abbrev b_law_begin : VS.Env → SR := (sRet (eLst (eCons (eLc (iS (eF (bP (bV 0)))) (bName (pinOf [1]) 1) tYesE b_law_begin_1 [1]) (eCons (eF (bC (.int 0))) (eCons (eF (bC (.int 0))) (eCons (eF (bC (.int 5))) eNil))))))
def f_law_begin : List D → FR := mkF 1 2 pin_law_begin b_law_begin
theorem ok_law_begin (M : Mg mg fa) (F : Fd K mg "_law_begin" "_law_begin" s_law_begin ps_law_begin) : Cb P w K mg base fa 1 "_law_begin" 1 f_law_begin := by
  refine cb_mk2 (pin := pin_law_begin) (b := b_law_begin) F sc_law_begin rfl rfl rfl ?_
  intro f cdv A outer s H E hr
  have nd := sc_law_begin.nd
  have hp : PassesOwn (model P w) (cxOf (L2.CX P w) P w K mg base N_law_begin "_law_begin" (defScope s_law_begin) f cdv A outer s H E).A (cxOf (L2.CX P w) P w K mg base N_law_begin "_law_begin" (defScope s_law_begin) f cdv A outer s H E).env (cxOf (L2.CX P w) P w K mg base N_law_begin "_law_begin" (defScope s_law_begin) f cdv A outer s H E).xe := passes_of rfl
  have hx : ∀ σ, PassesAt (L2.CX P w) (cxOf (L2.CX P w) P w K mg base N_law_begin "_law_begin" (defScope s_law_begin) f cdv A outer s H E) σ (WE (WE0 E) σ) := fun σ => passAt (takes_of rfl rfl rfl rfl) σ
  exact ⟨_, (ss_one (ss_ret (se_lst (ses_cons (se_lc (own := [("cell", 1)]) rfl nd (blkOk_by (by dsimp only [cxOf, Cx.blk, compEnvC, PyProof.Rows.envOfC, relabel, PySem.Env.kindOf]; first | decide +kernel | rfl)) (si_seq (((sb_v 0)).toF).toE) (fun _ _ _ _ _ => SG.te ((sg_name (i := 1) nd)) (by first | rfl | dsimp only [Cx.blk, cn] | (dsimp only [Cx.blk, cn]; rfl))) (fun _ _ _ _ _ => STs.te (sts_nil) (by first | rfl | dsimp only [Cx.blk, cn] | (dsimp only [Cx.blk, cn]; rfl))) (fun _ _ _ _ _ => SE.te (((sf_t1 call_int1 ok_int (by decide +kernel) M.m_int (sb_v 1))).toE) (by first | rfl | dsimp only [Cx.blk, cn] | (dsimp only [Cx.blk, cn]; rfl)))) (ses_cons (sf_i).toE (ses_cons (sf_i).toE (ses_cons (sf_i).toE ses_nil)))))))⟩
abbrev s_law_draw : Stmt := topS 8
abbrev N_law_draw : List Str := ["d", "many", "found", "size", "cell"]
abbrev ps_law_draw : List Str := ["d", "many"]
theorem sc_law_draw : FnScope N_law_draw ps_law_draw (defScope s_law_draw) := ⟨rfl, rfl, rfl, by decide +kernel, rfl, by decide +kernel, by decide +kernel⟩
def pin_law_draw : Pin := fun j => ([0] : List Nat).contains j
abbrev b_law_draw : VS.Env → SR := (sSeq (sIf (pT (pB (b2 oGt (b2 oIx (bV 0) (bC (.int 2))) (bC (.int 0))))) (sSeq (sAsg (eF (bP (b2 oIx (bV 0) (bC (.int 2))))) (bName pin_law_draw 2))
  (sSeq (sSetL 0 lVar (bC (.int 2)) (eF (b2 oDiv (bV 2) (bV 1))))
  (sRet (eF (b2 oMod (b1 oInt (bV 2)) (bV 1)))))) sNil)
  (sSeq (sAsg (eF (bC (.int 0))) (bName pin_law_draw 3))
  (sSeq (sIf (pT (pB (b2 oLt (b2 oIx (bV 0) (bC (.int 1))) (b1 oLen (b2 oIx (bV 0) (bC (.int 0))))))) (sSeq (sAsg (eF (bP (b2 oIx (b2 oIx (bV 0) (bC (.int 0))) (b2 oIx (bV 0) (bC (.int 1)))))) (bName pin_law_draw 4))
  (sAsg (eF (b2 oAdd (b2 oMul (bC (.int 2)) (b1 oAbs (bV 4))) (b1 oInt (b2 oLt (bV 4) (bC (.int 0)))))) (bName pin_law_draw 3))) sNil)
  (sSeq (sAugL 0 (fun i j => i + j) (bC (.int 1)) (bC (.int 1)))
  (sSeq (sIf (pT (pB (b2 oGe (bV 3) (b2 oMul (bC (.int 2)) (b2 oPow (bC (.int 10)) (bC (.int 18))))))) (sSeq (sAsg (eF (b2 oMod (b1 oInt (b2 oDiv (bV 3) (bC (.int 2)))) (b2 oShl (bC (.int 1)) (bC (.int 6000))))) (bName pin_law_draw 2))
  (sSeq (sSetL 0 lVar (bC (.int 2)) (eF (b2 oDiv (bV 2) (bV 1))))
  (sRet (eF (b2 oMod (b1 oInt (bV 2)) (bV 1)))))) sNil)
  (sSeq (sSetL 0 lVar (bC (.int 3)) (eF (b2 oMod (b1 oInt (b2 oAdd (b2 oAdd (b2 oAdd (b2 oMul (b2 oIx (bV 0) (bC (.int 3))) (bC (.int 48271))) (b2 oMul (b2 oMod (b1 oInt (bV 3)) (bC (.int 2147483629))) (bC (.int 16807)))) (b2 oMul (b2 oIx (bV 0) (bC (.int 1))) (bC (.int 69621)))) (bC (.int 11)))) (bC (.int 2147483647)))))
  (sRet (eF (b2 oMod (b1 oInt (b2 oDiv (b2 oIx (bV 0) (bC (.int 3))) (bC (.int 16)))) (bV 1))))))))))
def f_law_draw : List D → FR := mkF 2 5 pin_law_draw b_law_draw
theorem ok_law_draw (M : Mg mg fa) (F : Fd K mg "_law_draw" "_law_draw" s_law_draw ps_law_draw) : Cb P w K mg base fa 1 "_law_draw" 2 f_law_draw := by
  refine cb_mk2 (pin := pin_law_draw) (b := b_law_draw) F sc_law_draw rfl rfl rfl ?_
  intro f cdv A outer s H E hr
  have nd := sc_law_draw.nd
  have hp : PassesOwn (model P w) (cxOf (L2.CX P w) P w K mg base N_law_draw "_law_draw" (defScope s_law_draw) f cdv A outer s H E).A (cxOf (L2.CX P w) P w K mg base N_law_draw "_law_draw" (defScope s_law_draw) f cdv A outer s H E).env (cxOf (L2.CX P w) P w K mg base N_law_draw "_law_draw" (defScope s_law_draw) f cdv A outer s H E).xe := passes_of rfl
  have hx : ∀ σ, PassesAt (L2.CX P w) (cxOf (L2.CX P w) P w K mg base N_law_draw "_law_draw" (defScope s_law_draw) f cdv A outer s H E) σ (WE (WE0 E) σ) := fun σ => passAt (takes_of rfl rfl rfl rfl) σ
  exact ⟨_, (ss_cons (ss_if ((sp_cmp op_gt ok_gt (sb_ix (sb_v 0) (sf_i).toB) (sf_i).toB (nomark _))).toE (ss_cons (ss_set 2 nd (((sb_ix (sb_v 0) (sf_i).toB)).toF).toE)
  (ss_cons (ss_setL (sl_var 0) (sf_i).toB ((sf_op (fun p q => pe_op (opOr op_fdiv op_fdivW) p q) ok_div (sb_v 2) (sb_v 1))).toE (fun pe po pi => ps_asg pe (pg_sub po pi set_list)))
  (ss_one (ss_ret ((sf_op (fun p q => pe_op op_mod p q) ok_mod ((sf_t1 call_int1 ok_int (by decide +kernel) M.m_int (sb_v 2))).toB (sb_v 1))).toE)))) ss_nil)
  (ss_cons (ss_set 3 nd (sf_i).toE)
  (ss_cons (ss_if ((sp_cmp op_lt ok_lt (sb_ix (sb_v 0) (sf_i).toB) ((sf_b1 call_len ok_len PySem.boot_len M.m_len (sb_ix (sb_v 0) (sf_i).toB))).toB (nomark _))).toE (ss_cons (ss_set 4 nd (((sb_ix (sb_ix (sb_v 0) (sf_i).toB) (sb_ix (sb_v 0) (sf_i).toB))).toF).toE)
  (ss_one (ss_set 3 nd ((sf_op (fun p q => pe_op opAdd p q) ok_add ((sf_op (fun p q => pe_op (opOr op_mul op_mulW) p q) ok_mul (sf_i).toB ((sf_b1 call_abs ok_abs (by decide +kernel) M.m_abs (sb_v 4))).toB)).toB ((sf_t1 call_int1 ok_int (by decide +kernel) M.m_int ((sf_op (fun p q => pe_cmpR op_lt p q (nomark _)) ok_lt (sb_v 4) (sf_i).toB)).toB)).toB)).toE))) ss_nil)
  (ss_cons (ss_augL 0 (pv 0) (sf_i).toB (sf_i).toB (fun po pi pe => ps_augS po pi pget_lst pe ip_add set_list))
  (ss_cons (ss_if ((sp_cmp op_ge ok_ge (sb_v 3) ((sf_op (fun p q => pe_op (opOr op_mul op_mulW) p q) ok_mul (sf_i).toB ((sf_op (fun p q => pe_op op_pow p q) ok_pow (sf_i).toB (sf_i).toB)).toB)).toB (nomark _))).toE (ss_cons (ss_set 2 nd ((sf_op (fun p q => pe_op op_mod p q) ok_mod ((sf_t1 call_int1 ok_int (by decide +kernel) M.m_int ((sf_op (fun p q => pe_op (opOr op_fdiv op_fdivW) p q) ok_div (sb_v 3) (sf_i).toB)).toB)).toB ((sf_op (fun p q => pe_op op_shl p q) ok_shl (sf_i).toB (sf_i).toB)).toB)).toE)
  (ss_cons (ss_setL (sl_var 0) (sf_i).toB ((sf_op (fun p q => pe_op (opOr op_fdiv op_fdivW) p q) ok_div (sb_v 2) (sb_v 1))).toE (fun pe po pi => ps_asg pe (pg_sub po pi set_list)))
  (ss_one (ss_ret ((sf_op (fun p q => pe_op op_mod p q) ok_mod ((sf_t1 call_int1 ok_int (by decide +kernel) M.m_int (sb_v 2))).toB (sb_v 1))).toE)))) ss_nil)
  (ss_cons (ss_setL (sl_var 0) (sf_i).toB ((sf_op (fun p q => pe_op op_mod p q) ok_mod ((sf_t1 call_int1 ok_int (by decide +kernel) M.m_int ((sf_op (fun p q => pe_op opAdd p q) ok_add ((sf_op (fun p q => pe_op opAdd p q) ok_add ((sf_op (fun p q => pe_op opAdd p q) ok_add ((sf_op (fun p q => pe_op (opOr op_mul op_mulW) p q) ok_mul (sb_ix (sb_v 0) (sf_i).toB) (sf_i).toB)).toB ((sf_op (fun p q => pe_op (opOr op_mul op_mulW) p q) ok_mul ((sf_op (fun p q => pe_op op_mod p q) ok_mod ((sf_t1 call_int1 ok_int (by decide +kernel) M.m_int (sb_v 3))).toB (sf_i).toB)).toB (sf_i).toB)).toB)).toB ((sf_op (fun p q => pe_op (opOr op_mul op_mulW) p q) ok_mul (sb_ix (sb_v 0) (sf_i).toB) (sf_i).toB)).toB)).toB (sf_i).toB)).toB)).toB (sf_i).toB)).toE (fun pe po pi => ps_asg pe (pg_sub po pi set_list)))
  (ss_one (ss_ret ((sf_op (fun p q => pe_op op_mod p q) ok_mod ((sf_t1 call_int1 ok_int (by decide +kernel) M.m_int ((sf_op (fun p q => pe_op (opOr op_fdiv op_fdivW) p q) ok_div (sb_ix (sb_v 0) (sf_i).toB) (sf_i).toB)).toB)).toB (sb_v 1))).toE))))))))⟩
abbrev s_law_rows_of_states : Stmt := topS 14
abbrev N_law_rows_of_states : List Str := ["d", "letters", "states", "state", "letter"]
abbrev ps_law_rows_of_states : List Str := ["d", "letters", "states"]
theorem sc_law_rows_of_states : FnScope N_law_rows_of_states ps_law_rows_of_states (defScope s_law_rows_of_states) := ⟨rfl, rfl, rfl, by decide +kernel, rfl, by decide +kernel, by decide +kernel⟩
def pin_law_rows_of_states : Pin := fun j => ([0] : List Nat).contains j
abbrev b_law_rows_of_states_1 : VS.Env → Res (D × VS.Env) := (eCall f_law_draw (aLend 0 (aOwn (eF (bP (bV 2))) aNil)))
abbrev b_law_rows_of_states_2 : VS.Env → Res (D × VS.Env) := (e1 oTupleP (eLc (iR1 (eCons (eF (bP (bV 1))) eNil)) (bName (pinOf [4]) 4) tYesE b_law_rows_of_states_1 [4]))
abbrev b_law_rows_of_states : VS.Env → SR := (sRet (e1 oTupleP (eLc (iR1 (eCons (eF (bP (bV 2))) eNil)) (bName (pinOf [3]) 3) tYesE b_law_rows_of_states_2 [3])))
def f_law_rows_of_states : List D → FR := mkF 3 5 pin_law_rows_of_states b_law_rows_of_states
theorem ok_law_rows_of_states (M : Mg mg fa) (C_law_draw : Cb P w K mg base fa 1 "_law_draw" 2 f_law_draw) (F : Fd K mg "_law_rows_of_states" "_law_rows_of_states" s_law_rows_of_states ps_law_rows_of_states) : Cb P w K mg base fa 2 "_law_rows_of_states" 3 f_law_rows_of_states := by
  refine cb_mk2 (pin := pin_law_rows_of_states) (b := b_law_rows_of_states) F sc_law_rows_of_states rfl rfl rfl ?_
  intro f cdv A outer s H E hr
  have nd := sc_law_rows_of_states.nd
  have hp : PassesOwn (model P w) (cxOf (L2.CX P w) P w K mg base N_law_rows_of_states "_law_rows_of_states" (defScope s_law_rows_of_states) f cdv A outer s H E).A (cxOf (L2.CX P w) P w K mg base N_law_rows_of_states "_law_rows_of_states" (defScope s_law_rows_of_states) f cdv A outer s H E).env (cxOf (L2.CX P w) P w K mg base N_law_rows_of_states "_law_rows_of_states" (defScope s_law_rows_of_states) f cdv A outer s H E).xe := passes_of rfl
  have hx : ∀ σ, PassesAt (L2.CX P w) (cxOf (L2.CX P w) P w K mg base N_law_rows_of_states "_law_rows_of_states" (defScope s_law_rows_of_states) f cdv A outer s H E) σ (WE (WE0 E) σ) := fun σ => passAt (takes_of rfl rfl rfl rfl) σ
  exact ⟨_, (ss_one (ss_ret (se_t1 call_tuple_of ok_tupleP (by decide +kernel) M.m_tuple (se_lc (own := [("state", 3)]) rfl nd (blkOk_by (by dsimp only [cxOf, Cx.blk, compEnvC, PyProof.Rows.envOfC, relabel, PySem.Env.kindOf]; first | decide +kernel | rfl)) (si_rng1 M.m_range (ses_cons (((sb_v 2)).toF).toE ses_nil)) (fun _ _ _ _ _ => SG.te ((sg_name (i := 3) nd)) (by first | rfl | dsimp only [Cx.blk, cn] | (dsimp only [Cx.blk, cn]; rfl))) (fun _ _ _ _ _ => STs.te (sts_nil) (by first | rfl | dsimp only [Cx.blk, cn] | (dsimp only [Cx.blk, cn]; rfl))) (fun _ _ _ _ _ => SE.te ((se_t1 call_tuple_of ok_tupleP (by decide +kernel) M.m_tuple (se_lc (own := [("letter", 4)]) rfl nd (blkOk_by (by dsimp only [cxOf, Cx.blk, compEnvC, PyProof.Rows.envOfC, relabel, PySem.Env.kindOf]; first | decide +kernel | rfl)) (si_rng1 M.m_range (ses_cons (((sb_v 1)).toF).toE ses_nil)) (fun _ _ _ _ _ => SG.te ((sg_name (i := 4) nd)) (by first | rfl | dsimp only [Cx.blk, cn] | (dsimp only [Cx.blk, cn]; rfl))) (fun _ _ _ _ _ => STs.te (sts_nil) (by first | rfl | dsimp only [Cx.blk, cn] | (dsimp only [Cx.blk, cn]; rfl))) (fun _ _ _ _ _ => SE.te ((se_callC C_law_draw hr passW0 (sas_lend 0 (pv 0) (sas_own (((sb_v 2)).toF).toE sas_nil)))) (by first | rfl | dsimp only [Cx.blk, cn] | (dsimp only [Cx.blk, cn]; rfl)))))) (by first | rfl | dsimp only [Cx.blk, cn] | (dsimp only [Cx.blk, cn]; rfl)))))))⟩
abbrev s_law_named : Stmt := topS 13
abbrev N_law_named : List Str := ["d", "questions", "question"]
abbrev ps_law_named : List Str := ["d", "questions"]
theorem sc_law_named : FnScope N_law_named ps_law_named (defScope s_law_named) := ⟨rfl, rfl, rfl, by decide +kernel, rfl, by decide +kernel, by decide +kernel⟩
def pin_law_named : Pin := fun j => ([0] : List Nat).contains j
abbrev b_law_named_1 : VS.Env → Res (D × VS.Env) := (eF (bP (bV 2)))
abbrev b_law_named : VS.Env → SR := (sRet (e1 oTupleP (eLc (iR1 (eCons (eF (bP (bV 1))) eNil)) (bName (pinOf [2]) 2) (pE (e2 oEq (eCall f_law_draw (aLend 0 (aOwn (eF (bC (.int 2))) aNil))) (eF (bC (.int 1))))) b_law_named_1 [2])))
def f_law_named : List D → FR := mkF 2 3 pin_law_named b_law_named
theorem ok_law_named (M : Mg mg fa) (C_law_draw : Cb P w K mg base fa 1 "_law_draw" 2 f_law_draw) (F : Fd K mg "_law_named" "_law_named" s_law_named ps_law_named) : Cb P w K mg base fa 2 "_law_named" 2 f_law_named := by
  refine cb_mk2 (pin := pin_law_named) (b := b_law_named) F sc_law_named rfl rfl rfl ?_
  intro f cdv A outer s H E hr
  have nd := sc_law_named.nd
  have hp : PassesOwn (model P w) (cxOf (L2.CX P w) P w K mg base N_law_named "_law_named" (defScope s_law_named) f cdv A outer s H E).A (cxOf (L2.CX P w) P w K mg base N_law_named "_law_named" (defScope s_law_named) f cdv A outer s H E).env (cxOf (L2.CX P w) P w K mg base N_law_named "_law_named" (defScope s_law_named) f cdv A outer s H E).xe := passes_of rfl
  have hx : ∀ σ, PassesAt (L2.CX P w) (cxOf (L2.CX P w) P w K mg base N_law_named "_law_named" (defScope s_law_named) f cdv A outer s H E) σ (WE (WE0 E) σ) := fun σ => passAt (takes_of rfl rfl rfl rfl) σ
  exact ⟨_, (ss_one (ss_ret (se_t1 call_tuple_of ok_tupleP (by decide +kernel) M.m_tuple (se_lc (own := [("question", 2)]) rfl nd (blkOk_by (by dsimp only [cxOf, Cx.blk, compEnvC, PyProof.Rows.envOfC, relabel, PySem.Env.kindOf]; first | decide +kernel | rfl)) (si_rng1 M.m_range (ses_cons (((sb_v 1)).toF).toE ses_nil)) (fun _ _ _ _ _ => SG.te ((sg_name (i := 2) nd)) (by first | rfl | dsimp only [Cx.blk, cn] | (dsimp only [Cx.blk, cn]; rfl))) (fun _ _ _ _ _ => STs.te ((sts_one (spe_cmp (op_eqD hr.units) ok_eq (se_callC C_law_draw hr passW0 (sas_lend 0 (pv 0) (sas_own (sf_i).toE sas_nil))) (sf_i).toE (nomark _)))) (by first | rfl | dsimp only [Cx.blk, cn] | (dsimp only [Cx.blk, cn]; rfl))) (fun _ _ _ _ _ => SE.te ((((sb_v 2)).toF).toE) (by first | rfl | dsimp only [Cx.blk, cn] | (dsimp only [Cx.blk, cn]; rfl)))))))⟩
abbrev s_law_pick : Stmt := topS 9
abbrev N_law_pick : List Str := ["d", "row"]
abbrev ps_law_pick : List Str := ["d", "row"]
theorem sc_law_pick : FnScope N_law_pick ps_law_pick (defScope s_law_pick) := ⟨rfl, rfl, rfl, by decide +kernel, rfl, by decide +kernel, by decide +kernel⟩
def pin_law_pick : Pin := fun j => ([0, 1] : List Nat).contains j
abbrev b_law_pick : VS.Env → SR := (sRet (eIxV 1 (eCall f_law_draw (aLend 0 (aOwn (eF (b1 oLen (bV 1))) aNil)))))
def f_law_pick : List D → FR := mkF 2 2 pin_law_pick b_law_pick
theorem ok_law_pick (M : Mg mg fa) (C_law_draw : Cb P w K mg base fa 1 "_law_draw" 2 f_law_draw) (F : Fd K mg "_law_pick" "_law_pick" s_law_pick ps_law_pick) : Cb P w K mg base fa 2 "_law_pick" 2 f_law_pick := by
  refine cb_mk2 (pin := pin_law_pick) (b := b_law_pick) F sc_law_pick rfl rfl rfl ?_
  intro f cdv A outer s H E hr
  have nd := sc_law_pick.nd
  have hp : PassesOwn (model P w) (cxOf (L2.CX P w) P w K mg base N_law_pick "_law_pick" (defScope s_law_pick) f cdv A outer s H E).A (cxOf (L2.CX P w) P w K mg base N_law_pick "_law_pick" (defScope s_law_pick) f cdv A outer s H E).env (cxOf (L2.CX P w) P w K mg base N_law_pick "_law_pick" (defScope s_law_pick) f cdv A outer s H E).xe := passes_of rfl
  have hx : ∀ σ, PassesAt (L2.CX P w) (cxOf (L2.CX P w) P w K mg base N_law_pick "_law_pick" (defScope s_law_pick) f cdv A outer s H E) σ (WE (WE0 E) σ) := fun σ => passAt (takes_of rfl rfl rfl rfl) σ
  exact ⟨_, (ss_one (ss_ret (se_ixV 1 (se_callC C_law_draw hr hx (sas_lend 0 (pv 0) (sas_own ((sf_b1 call_len ok_len PySem.boot_len M.m_len (sb_v 1))).toE sas_nil))))))⟩
abbrev s_law_few_names : Stmt := topS 21
abbrev N_law_few_names : List Str := ["d", "states", "menu", "state"]
abbrev ps_law_few_names : List Str := ["d", "states"]
theorem sc_law_few_names : FnScope N_law_few_names ps_law_few_names (defScope s_law_few_names) := ⟨rfl, rfl, rfl, by decide +kernel, rfl, by decide +kernel, by decide +kernel⟩
def pin_law_few_names : Pin := fun j => ([0] : List Nat).contains j
abbrev b_law_few_names_1 : VS.Env → Res (D × VS.Env) := (eCall f_law_pick (aLend 0 (aLend 2 aNil)))
abbrev b_law_few_names : VS.Env → SR := (sSeq (sAsg (eLst (eCons (eF (fTup fNil)) (eCons (eF (fTup fNil)) (eCons (eF (fTup (fCons (bC (.int 0)) fNil))) (eCons (eCall f_law_named (aLend 0 (aOwn (eF (bC (.int 5))) aNil))) (eCons (eCall f_law_named (aLend 0 (aOwn (eF (bC (.int 5))) aNil))) eNil)))))) (bName pin_law_few_names 2))
  (sRet (e1 oTupleP (eLc (iR1 (eCons (eF (bP (bV 1))) eNil)) (bName (pinOf [3]) 3) tYesE b_law_few_names_1 [3]))))
def f_law_few_names : List D → FR := mkF 2 4 pin_law_few_names b_law_few_names
theorem ok_law_few_names (M : Mg mg fa) (C_law_named : Cb P w K mg base fa 2 "_law_named" 2 f_law_named) (C_law_pick : Cb P w K mg base fa 2 "_law_pick" 2 f_law_pick) (F : Fd K mg "_law_few_names" "_law_few_names" s_law_few_names ps_law_few_names) : Cb P w K mg base fa 3 "_law_few_names" 2 f_law_few_names := by
  refine cb_mk2 (pin := pin_law_few_names) (b := b_law_few_names) F sc_law_few_names rfl rfl rfl ?_
  intro f cdv A outer s H E hr
  have nd := sc_law_few_names.nd
  have hp : PassesOwn (model P w) (cxOf (L2.CX P w) P w K mg base N_law_few_names "_law_few_names" (defScope s_law_few_names) f cdv A outer s H E).A (cxOf (L2.CX P w) P w K mg base N_law_few_names "_law_few_names" (defScope s_law_few_names) f cdv A outer s H E).env (cxOf (L2.CX P w) P w K mg base N_law_few_names "_law_few_names" (defScope s_law_few_names) f cdv A outer s H E).xe := passes_of rfl
  have hx : ∀ σ, PassesAt (L2.CX P w) (cxOf (L2.CX P w) P w K mg base N_law_few_names "_law_few_names" (defScope s_law_few_names) f cdv A outer s H E) σ (WE (WE0 E) σ) := fun σ => passAt (takes_of rfl rfl rfl rfl) σ
  exact ⟨_, (ss_cons (ss_set 2 nd (se_lst (ses_cons ((sf_tup sfs_nil)).toE (ses_cons ((sf_tup sfs_nil)).toE (ses_cons ((sf_tup (sfs_cons sf_i sfs_nil))).toE (ses_cons (se_callC C_law_named hr hx (sas_lend 0 (pv 0) (sas_own (sf_i).toE sas_nil))) (ses_cons (se_callC C_law_named hr hx (sas_lend 0 (pv 0) (sas_own (sf_i).toE sas_nil))) ses_nil)))))))
  (ss_one (ss_ret (se_t1 call_tuple_of ok_tupleP (by decide +kernel) M.m_tuple (se_lc (own := [("state", 3)]) rfl nd (blkOk_by (by dsimp only [cxOf, Cx.blk, compEnvC, PyProof.Rows.envOfC, relabel, PySem.Env.kindOf]; first | decide +kernel | rfl)) (si_rng1 M.m_range (ses_cons (((sb_v 1)).toF).toE ses_nil)) (fun _ _ _ _ _ => SG.te ((sg_name (i := 3) nd)) (by first | rfl | dsimp only [Cx.blk, cn] | (dsimp only [Cx.blk, cn]; rfl))) (fun _ _ _ _ _ => STs.te (sts_nil) (by first | rfl | dsimp only [Cx.blk, cn] | (dsimp only [Cx.blk, cn]; rfl))) (fun _ _ _ _ _ => SE.te ((se_callC C_law_pick hr passW0 (sas_lend 0 (pv 0) (sas_lend 2 (pv 2) sas_nil)))) (by first | rfl | dsimp only [Cx.blk, cn] | (dsimp only [Cx.blk, cn]; rfl))))))))⟩
abbrev s_law_few_trial : Stmt := topS 22
abbrev N_law_few_trial : List Str := ["d", "letters", "states", "rows"]
abbrev ps_law_few_trial : List Str := ["d", "letters", "states"]
theorem sc_law_few_trial : FnScope N_law_few_trial ps_law_few_trial (defScope s_law_few_trial) := ⟨rfl, rfl, rfl, by decide +kernel, rfl, by decide +kernel, by decide +kernel⟩
def pin_law_few_trial : Pin := fun j => ([0] : List Nat).contains j
abbrev b_law_few_trial : VS.Env → SR := (sSeq (sAsg (eCall f_law_rows_of_states (aLend 0 (aOwn (eF (bP (bV 1))) (aOwn (eF (bP (bV 2))) aNil)))) (bName pin_law_few_trial 3))
  (sRet (eTup (eCons (eF (bC (.str "trial"))) (eCons (eF (bP (bV 1))) (eCons (eF (bP (bV 3))) (eCons (eCall f_law_few_names (aLend 0 (aOwn (eF (bP (bV 2))) aNil))) eNil)))))))
def f_law_few_trial : List D → FR := mkF 3 4 pin_law_few_trial b_law_few_trial
theorem ok_law_few_trial (M : Mg mg fa) (C_law_rows_of_states : Cb P w K mg base fa 2 "_law_rows_of_states" 3 f_law_rows_of_states) (C_law_few_names : Cb P w K mg base fa 3 "_law_few_names" 2 f_law_few_names) (F : Fd K mg "_law_few_trial" "_law_few_trial" s_law_few_trial ps_law_few_trial) : Cb P w K mg base fa 4 "_law_few_trial" 3 f_law_few_trial := by
  refine cb_mk2 (pin := pin_law_few_trial) (b := b_law_few_trial) F sc_law_few_trial rfl rfl rfl ?_
  intro f cdv A outer s H E hr
  have nd := sc_law_few_trial.nd
  have hp : PassesOwn (model P w) (cxOf (L2.CX P w) P w K mg base N_law_few_trial "_law_few_trial" (defScope s_law_few_trial) f cdv A outer s H E).A (cxOf (L2.CX P w) P w K mg base N_law_few_trial "_law_few_trial" (defScope s_law_few_trial) f cdv A outer s H E).env (cxOf (L2.CX P w) P w K mg base N_law_few_trial "_law_few_trial" (defScope s_law_few_trial) f cdv A outer s H E).xe := passes_of rfl
  have hx : ∀ σ, PassesAt (L2.CX P w) (cxOf (L2.CX P w) P w K mg base N_law_few_trial "_law_few_trial" (defScope s_law_few_trial) f cdv A outer s H E) σ (WE (WE0 E) σ) := fun σ => passAt (takes_of rfl rfl rfl rfl) σ
  exact ⟨_, (ss_cons (ss_set 3 nd (se_callC C_law_rows_of_states hr hx (sas_lend 0 (pv 0) (sas_own (((sb_v 1)).toF).toE (sas_own (((sb_v 2)).toF).toE sas_nil)))))
  (ss_one (ss_ret (se_tup (ses_cons (sf_s).toE (ses_cons (((sb_v 1)).toF).toE (ses_cons (((sb_v 3)).toF).toE (ses_cons (se_callC C_law_few_names hr hx (sas_lend 0 (pv 0) (sas_own (((sb_v 2)).toF).toE sas_nil))) ses_nil))))))))⟩
abbrev s_law_row : Stmt := topS 15
abbrev N_law_row : List Str := ["d", "letters", "many", "k"]
abbrev ps_law_row : List Str := ["d", "letters", "many"]
theorem sc_law_row : FnScope N_law_row ps_law_row (defScope s_law_row) := ⟨rfl, rfl, rfl, by decide +kernel, rfl, by decide +kernel, by decide +kernel⟩
def pin_law_row : Pin := fun j => ([0] : List Nat).contains j
abbrev b_law_row_1 : VS.Env → Res (D × VS.Env) := (eCall f_law_draw (aLend 0 (aOwn (eF (bP (bV 1))) aNil)))
abbrev b_law_row : VS.Env → SR := (sRet (e1 oTupleP (eLc (iR1 (eCons (eF (bP (bV 2))) eNil)) (bName (pinOf [3]) 3) tYesE b_law_row_1 [3])))
def f_law_row : List D → FR := mkF 3 4 pin_law_row b_law_row
theorem ok_law_row (M : Mg mg fa) (C_law_draw : Cb P w K mg base fa 1 "_law_draw" 2 f_law_draw) (F : Fd K mg "_law_row" "_law_row" s_law_row ps_law_row) : Cb P w K mg base fa 2 "_law_row" 3 f_law_row := by
  refine cb_mk2 (pin := pin_law_row) (b := b_law_row) F sc_law_row rfl rfl rfl ?_
  intro f cdv A outer s H E hr
  have nd := sc_law_row.nd
  have hp : PassesOwn (model P w) (cxOf (L2.CX P w) P w K mg base N_law_row "_law_row" (defScope s_law_row) f cdv A outer s H E).A (cxOf (L2.CX P w) P w K mg base N_law_row "_law_row" (defScope s_law_row) f cdv A outer s H E).env (cxOf (L2.CX P w) P w K mg base N_law_row "_law_row" (defScope s_law_row) f cdv A outer s H E).xe := passes_of rfl
  have hx : ∀ σ, PassesAt (L2.CX P w) (cxOf (L2.CX P w) P w K mg base N_law_row "_law_row" (defScope s_law_row) f cdv A outer s H E) σ (WE (WE0 E) σ) := fun σ => passAt (takes_of rfl rfl rfl rfl) σ
  exact ⟨_, (ss_one (ss_ret (se_t1 call_tuple_of ok_tupleP (by decide +kernel) M.m_tuple (se_lc (own := [("k", 3)]) rfl nd (blkOk_by (by dsimp only [cxOf, Cx.blk, compEnvC, PyProof.Rows.envOfC, relabel, PySem.Env.kindOf]; first | decide +kernel | rfl)) (si_rng1 M.m_range (ses_cons (((sb_v 2)).toF).toE ses_nil)) (fun _ _ _ _ _ => SG.te ((sg_name (i := 3) nd)) (by first | rfl | dsimp only [Cx.blk, cn] | (dsimp only [Cx.blk, cn]; rfl))) (fun _ _ _ _ _ => STs.te (sts_nil) (by first | rfl | dsimp only [Cx.blk, cn] | (dsimp only [Cx.blk, cn]; rfl))) (fun _ _ _ _ _ => SE.te ((se_callC C_law_draw hr passW0 (sas_lend 0 (pv 0) (sas_own (((sb_v 1)).toF).toE sas_nil)))) (by first | rfl | dsimp only [Cx.blk, cn] | (dsimp only [Cx.blk, cn]; rfl)))))))⟩
abbrev s_law_password : Stmt := topS 27
abbrev N_law_password : List Str := ["d", "letters", "row", "last", "rows", "at", "letter"]
abbrev ps_law_password : List Str := ["d", "letters", "row", "last"]
theorem sc_law_password : FnScope N_law_password ps_law_password (defScope s_law_password) := ⟨rfl, rfl, rfl, by decide +kernel, rfl, by decide +kernel, by decide +kernel⟩
def pin_law_password : Pin := fun j => ([0] : List Nat).contains j
abbrev b_law_password_1 : VS.Env → Res (D × VS.Env) := (eIf (pT (pB (b2 oEq (bV 6) (b2 oIx (bV 2) (bV 5))))) (eF (b2 oAdd (bV 5) (bC (.int 1)))) (eCall f_law_draw (aLend 0 (aOwn (eF (b2 oAdd (bV 5) (bC (.int 1)))) aNil))))
abbrev b_law_password_2 : VS.Env → SR := (sDrop (eApp 4 (e1 oTupleP (eLc (iR1 (eCons (eF (bP (bV 1))) eNil)) (bName (pinOf [6]) 6) tYesE b_law_password_1 [6]))))
abbrev b_law_password_3 : VS.Env → Res (D × VS.Env) := (eCall f_law_draw (aLend 0 (aOwn (eF (b2 oAdd (b1 oLen (bV 2)) (bC (.int 1)))) aNil)))
abbrev b_law_password_4 : VS.Env → Res (D × VS.Env) := (eF (fTup fNil))
abbrev b_law_password_5 : VS.Env → Res (D × VS.Env) := (eF (fTup fNil))
abbrev b_law_password : VS.Env → SR := (sSeq (sAsg (eF (fLst fNil)) (bName pin_law_password 4))
  (sSeq (sFor (iR1 (eCons (eF (b1 oLen (bV 2))) eNil)) (bName pin_law_password 5) b_law_password_2)
  (sSeq (sDrop (eApp 4 (e1 oTupleP (eLc (iR1 (eCons (eF (bP (bV 1))) eNil)) (bName (pinOf [6]) 6) tYesE b_law_password_3 [6]))))
  (sRet (eTup (eCons (eF (bC (.str "trial"))) (eCons (eF (bP (bV 1))) (eCons (eF (b1 oTupleP (bV 4))) (eCons (e2 oAdd (e1 oTupleP (eLc (iS (eF (bP (bV 2)))) (bName (pinOf [6]) 6) tYesE b_law_password_5 [6])) (eF (fTup (fCons (bP (bV 3)) fNil)))) eNil)))))))))
def f_law_password : List D → FR := mkF 4 7 pin_law_password b_law_password
theorem ok_law_password (M : Mg mg fa) (C_law_draw : Cb P w K mg base fa 1 "_law_draw" 2 f_law_draw) (F : Fd K mg "_law_password" "_law_password" s_law_password ps_law_password) : Cb P w K mg base fa 2 "_law_password" 4 f_law_password := by
  refine cb_mk2 (pin := pin_law_password) (b := b_law_password) F sc_law_password rfl rfl rfl ?_
  intro f cdv A outer s H E hr
  have nd := sc_law_password.nd
  have hp : PassesOwn (model P w) (cxOf (L2.CX P w) P w K mg base N_law_password "_law_password" (defScope s_law_password) f cdv A outer s H E).A (cxOf (L2.CX P w) P w K mg base N_law_password "_law_password" (defScope s_law_password) f cdv A outer s H E).env (cxOf (L2.CX P w) P w K mg base N_law_password "_law_password" (defScope s_law_password) f cdv A outer s H E).xe := passes_of rfl
  have hx : ∀ σ, PassesAt (L2.CX P w) (cxOf (L2.CX P w) P w K mg base N_law_password "_law_password" (defScope s_law_password) f cdv A outer s H E) σ (WE (WE0 E) σ) := fun σ => passAt (takes_of rfl rfl rfl rfl) σ
  exact ⟨_, (ss_cons (ss_set 4 nd ((sf_lst sfs_nil)).toE)
  (ss_cons (ss_for hp rfl (si_rng1 M.m_range (ses_cons ((sf_b1 call_len ok_len PySem.boot_len M.m_len (sb_v 2))).toE ses_nil)) (sg_name (i := 5) nd) (ss_one (ss_drop (se_app 4 (pv 4) (se_t1 call_tuple_of ok_tupleP (by decide +kernel) M.m_tuple (se_lc (own := [("letter", 6)]) rfl nd (blkOk_by (by dsimp only [cxOf, Cx.blk, compEnvC, PyProof.Rows.envOfC, relabel, PySem.Env.kindOf]; first | decide +kernel | rfl)) (si_rng1 M.m_range (ses_cons (((sb_v 1)).toF).toE ses_nil)) (fun _ _ _ _ _ => SG.te ((sg_name (i := 6) nd)) (by first | rfl | dsimp only [Cx.blk, cn] | (dsimp only [Cx.blk, cn]; rfl))) (fun _ _ _ _ _ => STs.te (sts_nil) (by first | rfl | dsimp only [Cx.blk, cn] | (dsimp only [Cx.blk, cn]; rfl))) (fun _ _ _ _ _ => SE.te ((se_if ((sp_cmp (op_eqD hr.units) ok_eq (sb_v 6) (sb_ix (sb_v 2) (sb_v 5)) (nomark _))).toE ((sf_op (fun p q => pe_op opAdd p q) ok_add (sb_v 5) (sf_i).toB)).toE (se_callC C_law_draw hr passW0 (sas_lend 0 (pv 0) (sas_own ((sf_op (fun p q => pe_op opAdd p q) ok_add (sb_v 5) (sf_i).toB)).toE sas_nil))))) (by first | rfl | dsimp only [Cx.blk, cn] | (dsimp only [Cx.blk, cn]; rfl))))) (fun po pe => pe_bm PySem.F.plainAttrs_list PySem.F.slot_list_append PySem.F.type_list_append mt_append po (pa_cons pe pa_nil))))))
  (ss_cons (ss_drop (se_app 4 (pv 4) (se_t1 call_tuple_of ok_tupleP (by decide +kernel) M.m_tuple (se_lc (own := [("letter", 6)]) rfl nd (blkOk_by (by dsimp only [cxOf, Cx.blk, compEnvC, PyProof.Rows.envOfC, relabel, PySem.Env.kindOf]; first | decide +kernel | rfl)) (si_rng1 M.m_range (ses_cons (((sb_v 1)).toF).toE ses_nil)) (fun _ _ _ _ _ => SG.te ((sg_name (i := 6) nd)) (by first | rfl | dsimp only [Cx.blk, cn] | (dsimp only [Cx.blk, cn]; rfl))) (fun _ _ _ _ _ => STs.te (sts_nil) (by first | rfl | dsimp only [Cx.blk, cn] | (dsimp only [Cx.blk, cn]; rfl))) (fun _ _ _ _ _ => SE.te ((se_callC C_law_draw hr passW0 (sas_lend 0 (pv 0) (sas_own ((sf_op (fun p q => pe_op opAdd p q) ok_add ((sf_b1 call_len ok_len PySem.boot_len M.m_len (sb_v 2))).toB (sf_i).toB)).toE sas_nil)))) (by first | rfl | dsimp only [Cx.blk, cn] | (dsimp only [Cx.blk, cn]; rfl))))) (fun po pe => pe_bm PySem.F.plainAttrs_list PySem.F.slot_list_append PySem.F.type_list_append mt_append po (pa_cons pe pa_nil))))
  (ss_one (ss_ret (se_tup (ses_cons (sf_s).toE (ses_cons (((sb_v 1)).toF).toE (ses_cons ((sf_t1 call_tuple_of ok_tupleP (by decide +kernel) M.m_tuple (sb_v 4))).toE (ses_cons (se_op (fun p q => pe_op opAdd p q) ok_add (se_t1 call_tuple_of ok_tupleP (by decide +kernel) M.m_tuple (se_lc (own := [("letter", 6)]) rfl nd (blkOk_by (by dsimp only [cxOf, Cx.blk, compEnvC, PyProof.Rows.envOfC, relabel, PySem.Env.kindOf]; first | decide +kernel | rfl)) (si_seq (((sb_v 2)).toF).toE) (fun _ _ _ _ _ => SG.te ((sg_name (i := 6) nd)) (by first | rfl | dsimp only [Cx.blk, cn] | (dsimp only [Cx.blk, cn]; rfl))) (fun _ _ _ _ _ => STs.te (sts_nil) (by first | rfl | dsimp only [Cx.blk, cn] | (dsimp only [Cx.blk, cn]; rfl))) (fun _ _ _ _ _ => SE.te (((sf_tup sfs_nil)).toE) (by first | rfl | dsimp only [Cx.blk, cn] | (dsimp only [Cx.blk, cn]; rfl))))) ((sf_tup (sfs_cons ((sb_v 3)).toF sfs_nil))).toE) ses_nil))))))))))⟩
abbrev s_law_is_int : Stmt := topS 12
abbrev N_law_is_int : List Str := ["thing"]
abbrev ps_law_is_int : List Str := ["thing"]
theorem sc_law_is_int : FnScope N_law_is_int ps_law_is_int (defScope s_law_is_int) := ⟨rfl, rfl, rfl, by decide +kernel, rfl, by decide +kernel, by decide +kernel⟩
def pin_law_is_int : Pin := fun j => ([] : List Nat).contains j
abbrev b_law_is_int : VS.Env → SR := (sRet (eF (fAnd (b1 (oIsi "int") (bV 0)) (fNot (b1 (oIsi "bool") (bV 0))))))
def f_law_is_int : List D → FR := mkF 1 1 pin_law_is_int b_law_is_int
theorem ok_law_is_int (M : Mg mg fa) (F : Fd K mg "_law_is_int" "_law_is_int" s_law_is_int ps_law_is_int) : Cb P w K mg base fa 1 "_law_is_int" 1 f_law_is_int := by
  refine cb_mk2 (pin := pin_law_is_int) (b := b_law_is_int) F sc_law_is_int rfl rfl rfl ?_
  intro f cdv A outer s H E hr
  have nd := sc_law_is_int.nd
  have hp : PassesOwn (model P w) (cxOf (L2.CX P w) P w K mg base N_law_is_int "_law_is_int" (defScope s_law_is_int) f cdv A outer s H E).A (cxOf (L2.CX P w) P w K mg base N_law_is_int "_law_is_int" (defScope s_law_is_int) f cdv A outer s H E).env (cxOf (L2.CX P w) P w K mg base N_law_is_int "_law_is_int" (defScope s_law_is_int) f cdv A outer s H E).xe := passes_of rfl
  have hx : ∀ σ, PassesAt (L2.CX P w) (cxOf (L2.CX P w) P w K mg base N_law_is_int "_law_is_int" (defScope s_law_is_int) f cdv A outer s H E) σ (WE (WE0 E) σ) := fun σ => passAt (takes_of rfl rfl rfl rfl) σ
  exact ⟨_, (ss_one (ss_ret ((sf_and (sf_isi "int" M.m_isinstance M.m_int (by decide +kernel) (sb_v 0)) (sf_one (sf_not (sf_isi "bool" M.m_isinstance M.m_bool (by decide +kernel) (sb_v 0)))))).toE))⟩
abbrev s_law_same : Stmt := topS 16
abbrev N_law_same : List Str := ["told", "due", "k"]
abbrev ps_law_same : List Str := ["told", "due"]
theorem sc_law_same : FnScope N_law_same ps_law_same (defScope s_law_same) := ⟨rfl, rfl, rfl, by decide +kernel, rfl, by decide +kernel, by decide +kernel⟩
def pin_law_same : Pin := fun j => ([] : List Nat).contains j
abbrev b_law_same_1 (rec : List D → FR) : VS.Env → Res (D × VS.Env) := (eF (fCall rec (fCons (bP (b2 oIx (bV 0) (bV 2))) (fCons (bP (b2 oIx (bV 1) (bV 2))) fNil))))
abbrev b_law_same (rec : List D → FR) : VS.Env → SR := (sSeq (sIf (pT (pB (b1 (oIsi "tuple") (bV 1)))) (sSeq (sIf (pOr (pT (pNot (pB (b1 (oIsi "tuple") (bV 0))))) (pT (pB (b2 oNe (b1 oLen (bV 0)) (b1 oLen (bV 1)))))) (sRet (eF (bC (.bl false)))) sNil)
  (sRet (e1 oAll (eLc (iR1 (eCons (eF (b1 oLen (bV 1))) eNil)) (bName (pinOf [2]) 2) tYesE (b_law_same_1 rec) [2])))) sNil)
  (sSeq (sIf (pT (pB (b2 oIs (bV 1) (bC .non)))) (sRet (eF (b2 oIs (bV 0) (bC .non)))) sNil)
  (sRet (eF (fAnd (fCall f_law_is_int (fCons (bP (bV 0)) fNil)) (b2 oEq (bV 0) (bV 1)))))))
def f_law_same : Nat → List D → FR
  | 0 => fun _ => .no
  | n + 1 => mkF 2 3 pin_law_same (b_law_same (f_law_same n))
theorem ok_law_same (M : Mg mg fa) (C_law_is_int : Cb P w K mg base fa 1 "_law_is_int" 1 f_law_is_int) (F : Fd K mg "_law_same" "_law_same" s_law_same ps_law_same) : ∀ n : Nat, Cb P w K mg base fa (1 + n) "_law_same" 2 (f_law_same n)
  | 0 => cb_no F
  | n + 1 => by
    have C_law_same := ok_law_same M C_law_is_int F n
    refine cb_mk2 (pin := pin_law_same) (b := (b_law_same (f_law_same n))) F sc_law_same rfl rfl rfl ?_
    intro f cdv A outer s H E hr
    have nd := sc_law_same.nd
    have hp : PassesOwn (model P w) (cxOf (L2.CX P w) P w K mg base N_law_same "_law_same" (defScope s_law_same) f cdv A outer s H E).A (cxOf (L2.CX P w) P w K mg base N_law_same "_law_same" (defScope s_law_same) f cdv A outer s H E).env (cxOf (L2.CX P w) P w K mg base N_law_same "_law_same" (defScope s_law_same) f cdv A outer s H E).xe := passes_of rfl
    have hx : ∀ σ, PassesAt (L2.CX P w) (cxOf (L2.CX P w) P w K mg base N_law_same "_law_same" (defScope s_law_same) f cdv A outer s H E) σ (WE (WE0 E) σ) := fun σ => passAt (takes_of rfl rfl rfl rfl) σ
    exact ⟨_, (ss_cons (ss_if ((sp_val ((sf_isi "tuple" M.m_isinstance M.m_tuple (by decide +kernel) (sb_v 1))).toB (fun p => pt_val p))).toE (ss_cons (ss_if ((spw_or ((sp_not (sp_val ((sf_isi "tuple" M.m_isinstance M.m_tuple (by decide +kernel) (sb_v 0))).toB (fun p => pt_val p)))).toE (spw_or1 ((sp_cmp (op_neD hr.units) ok_ne ((sf_b1 call_len ok_len PySem.boot_len M.m_len (sb_v 0))).toB ((sf_b1 call_len ok_len PySem.boot_len M.m_len (sb_v 1))).toB (nomark _))).toE))).p (ss_one (ss_ret (sf_b).toE)) ss_nil)
    (ss_one (ss_ret (se_b1 (cr_all rfl) ok_all (by decide +kernel) M.m_all (se_lc (own := [("k", 2)]) rfl nd (blkOk_by (by dsimp only [cxOf, Cx.blk, compEnvC, PyProof.Rows.envOfC, relabel, PySem.Env.kindOf]; first | decide +kernel | rfl)) (si_rng1 M.m_range (ses_cons ((sf_b1 call_len ok_len PySem.boot_len M.m_len (sb_v 1))).toE ses_nil)) (fun _ _ _ _ _ => SG.te ((sg_name (i := 2) nd)) (by first | rfl | dsimp only [Cx.blk, cn] | (dsimp only [Cx.blk, cn]; rfl))) (fun _ _ _ _ _ => STs.te (sts_nil) (by first | rfl | dsimp only [Cx.blk, cn] | (dsimp only [Cx.blk, cn]; rfl))) (fun _ _ _ _ _ => SE.te (((sf_callC C_law_same hr (sfs_cons ((sb_ix (sb_v 0) (sb_v 2))).toF (sfs_cons ((sb_ix (sb_v 1) (sb_v 2))).toF sfs_nil)) (hj := Nat.le_refl _))).toE) (by first | rfl | dsimp only [Cx.blk, cn] | (dsimp only [Cx.blk, cn]; rfl)))))))) ss_nil)
    (ss_cons (ss_if ((sp_cmp op_isN ok_is (sb_v 1) (sf_n).toB (nomark _))).toE (ss_one (ss_ret ((sf_op (fun p q => pe_cmpR op_isN p q (nomark _)) ok_is (sb_v 0) (sf_n).toB)).toE)) ss_nil)
    (ss_one (ss_ret ((sf_and (sf_callC C_law_is_int hr (sfs_cons ((sb_v 0)).toF sfs_nil) (hj := Nat.le_trans (by decide) (Nat.le_add_right 1 n))) (sf_one (sf_op (fun p q => pe_cmpR (op_eqD hr.units) p q (nomark _)) ok_eq (sb_v 0) (sb_v 1))))).toE))))⟩
abbrev s_are_unlike : Stmt := topS 2
abbrev N_are_unlike : List Str := ["one", "other"]
abbrev ps_are_unlike : List Str := ["one", "other"]
theorem sc_are_unlike : FnScope N_are_unlike ps_are_unlike (defScope s_are_unlike) := ⟨rfl, rfl, rfl, by decide +kernel, rfl, by decide +kernel, by decide +kernel⟩
def pin_are_unlike : Pin := fun j => ([] : List Nat).contains j
abbrev b_are_unlike : VS.Env → SR := (sRet (eF (b2 oNe (bV 0) (bV 1))))
def f_are_unlike : List D → FR := mkF 2 2 pin_are_unlike b_are_unlike
theorem ok_are_unlike (M : Mg mg fa) (F : Fd K mg "are_unlike" "are_unlike" s_are_unlike ps_are_unlike) : Cb P w K mg base fa 1 "are_unlike" 2 f_are_unlike := by
  refine cb_mk2 (pin := pin_are_unlike) (b := b_are_unlike) F sc_are_unlike rfl rfl rfl ?_
  intro f cdv A outer s H E hr
  have nd := sc_are_unlike.nd
  have hp : PassesOwn (model P w) (cxOf (L2.CX P w) P w K mg base N_are_unlike "are_unlike" (defScope s_are_unlike) f cdv A outer s H E).A (cxOf (L2.CX P w) P w K mg base N_are_unlike "are_unlike" (defScope s_are_unlike) f cdv A outer s H E).env (cxOf (L2.CX P w) P w K mg base N_are_unlike "are_unlike" (defScope s_are_unlike) f cdv A outer s H E).xe := passes_of rfl
  have hx : ∀ σ, PassesAt (L2.CX P w) (cxOf (L2.CX P w) P w K mg base N_are_unlike "are_unlike" (defScope s_are_unlike) f cdv A outer s H E) σ (WE (WE0 E) σ) := fun σ => passAt (takes_of rfl rfl rfl rfl) σ
  exact ⟨_, (ss_one (ss_ret ((sf_op (fun p q => pe_cmpR (op_neD hr.units) p q (nomark _)) ok_ne (sb_v 0) (sb_v 1))).toE))⟩
abbrev s_lacks_some : Stmt := topS 3
abbrev N_lacks_some : List Str := ["one", "other", "question"]
abbrev ps_lacks_some : List Str := ["one", "other"]
theorem sc_lacks_some : FnScope N_lacks_some ps_lacks_some (defScope s_lacks_some) := ⟨rfl, rfl, rfl, by decide +kernel, rfl, by decide +kernel, by decide +kernel⟩
def pin_lacks_some : Pin := fun j => ([] : List Nat).contains j
abbrev b_lacks_some_1 : VS.Env → Res (D × VS.Env) := (eF (b2 (oIn true) (bV 2) (bV 0)))
abbrev b_lacks_some : VS.Env → SR := (sRet (e1 oAny (eLc (iS (eF (bP (bV 1)))) (bName (pinOf [2]) 2) tYesE b_lacks_some_1 [2])))
def f_lacks_some : List D → FR := mkF 2 3 pin_lacks_some b_lacks_some
theorem ok_lacks_some (M : Mg mg fa) (F : Fd K mg "lacks_some" "lacks_some" s_lacks_some ps_lacks_some) : Cb P w K mg base fa 1 "lacks_some" 2 f_lacks_some := by
  refine cb_mk2 (pin := pin_lacks_some) (b := b_lacks_some) F sc_lacks_some rfl rfl rfl ?_
  intro f cdv A outer s H E hr
  have nd := sc_lacks_some.nd
  have hp : PassesOwn (model P w) (cxOf (L2.CX P w) P w K mg base N_lacks_some "lacks_some" (defScope s_lacks_some) f cdv A outer s H E).A (cxOf (L2.CX P w) P w K mg base N_lacks_some "lacks_some" (defScope s_lacks_some) f cdv A outer s H E).env (cxOf (L2.CX P w) P w K mg base N_lacks_some "lacks_some" (defScope s_lacks_some) f cdv A outer s H E).xe := passes_of rfl
  have hx : ∀ σ, PassesAt (L2.CX P w) (cxOf (L2.CX P w) P w K mg base N_lacks_some "lacks_some" (defScope s_lacks_some) f cdv A outer s H E) σ (WE (WE0 E) σ) := fun σ => passAt (takes_of rfl rfl rfl rfl) σ
  exact ⟨_, (ss_one (ss_ret (se_b1 (cr_any rfl) ok_any (by decide +kernel) M.m_any (se_lc (own := [("question", 2)]) rfl nd (blkOk_by (by dsimp only [cxOf, Cx.blk, compEnvC, PyProof.Rows.envOfC, relabel, PySem.Env.kindOf]; first | decide +kernel | rfl)) (si_seq (((sb_v 1)).toF).toE) (fun _ _ _ _ _ => SG.te ((sg_name (i := 2) nd)) (by first | rfl | dsimp only [Cx.blk, cn] | (dsimp only [Cx.blk, cn]; rfl))) (fun _ _ _ _ _ => STs.te (sts_nil) (by first | rfl | dsimp only [Cx.blk, cn] | (dsimp only [Cx.blk, cn]; rfl))) (fun _ _ _ _ _ => SE.te (((sf_op (fun p q => pe_cmpR op_notIn_seq p q (by rfl)) (ok_in (neg := true)) (sb_v 2) (sb_v 0))).toE) (by first | rfl | dsimp only [Cx.blk, cn] | (dsimp only [Cx.blk, cn]; rfl)))))))⟩
abbrev s_first_row : Stmt := topS 1
abbrev N_first_row : List Str := ["one", "other", "is_parted", "start", "met", "waiting", "at", "left", "right", "row", "letter", "pair"]
abbrev ps_first_row : List Str := ["one", "other", "is_parted"]
theorem sc_first_row : FnScope N_first_row ps_first_row (defScope s_first_row) := ⟨rfl, rfl, rfl, by decide +kernel, rfl, by decide +kernel, by decide +kernel⟩
def pin_first_row : Pin := fun j => ([] : List Nat).contains j
abbrev b_first_row_1 : VS.Env → SR := (sSeq (sAsg (eF (fTup (fCons (bP (b2 oIx (b2 oIx (b2 oIx (bV 0) (bC (.int 2))) (bV 7)) (bV 10))) (fCons (bP (b2 oIx (b2 oIx (b2 oIx (bV 1) (bC (.int 2))) (bV 8)) (bV 10))) fNil)))) (bName pin_first_row 11))
  (sIf (pT (pB (bDin true (bV 11) (bV 4)))) (sSeq (sDput 4 (bV 11) (eF (bC (.bl true))))
  (sDrop (eApp 5 (eF (fTup (fCons (bP (bV 11)) (fCons (b2 oAdd (bV 9) (fTup (fCons (bP (bV 10)) fNil))) fNil))))))) sNil))
abbrev b_first_row_2 : VS.Env → SR := (sSeq (sAsg (eF (bP (b2 oIx (bV 5) (bV 6)))) (bTup 2 (bCons (bTup 2 (bCons (bName pin_first_row 7) (bCons (bName pin_first_row 8) bNil))) (bCons (bName pin_first_row 9) bNil))))
  (sSeq (sIf (pT (pB (fCall2 2 0 1 f_are_unlike f_lacks_some (fCons (bP (b2 oIx (b2 oIx (bV 0) (bC (.int 3))) (bV 7))) (fCons (bP (b2 oIx (b2 oIx (bV 1) (bC (.int 3))) (bV 8))) fNil))))) (sRet (eF (bP (bV 9)))) sNil)
  (sSeq (sFor (iR1 (eCons (eF (bP (b2 oIx (bV 0) (bC (.int 1))))) eNil)) (bName pin_first_row 10) b_first_row_1)
  (sAug pin_first_row 6 (fun i j => i + j) (eF (bC (.int 1)))))))
abbrev b_first_row : VS.Env → SR := (sSeq (sAsg (eF (fTup (fCons (bC (.int 0)) (fCons (bC (.int 0)) fNil)))) (bName pin_first_row 3))
  (sSeq (sAsg (eF (fDisp1 (bV 3) (bC (.bl true)))) (bName pin_first_row 4))
  (sSeq (sAsg (eF (fLst (fCons (fTup (fCons (bP (bV 3)) (fCons (fTup fNil) fNil))) fNil))) (bName pin_first_row 5))
  (sSeq (sAsg (eF (bC (.int 0))) (bName pin_first_row 6))
  (sSeq (whileN (pT (pB (b2 oLt (bV 6) (b1 oLen (bV 5))))) b_first_row_2 FUEL)
  (sRet (eF (bC .non))))))))
def f_first_row : List D → FR := mkF 3 12 pin_first_row b_first_row
theorem ok_first_row (M : Mg mg fa) (G_are_unlike : Cb P w K mg base fa 1 "are_unlike" 2 f_are_unlike) (G_lacks_some : Cb P w K mg base fa 1 "lacks_some" 2 f_lacks_some) (F : Fd K mg "first_row" "first_row" s_first_row ps_first_row) : Cb P w K mg base fa 2 "first_row" 3 f_first_row := by
  have V_are_unlike : ∀ (f : Addr) (cdv : Value) (A : Around) (outer : List PySem.Env) (s : Shared) (H : Hp) (E : XK), Fv (cxOf (L2.CX P w) P w K mg base N_first_row "first_row" (defScope s_first_row) f cdv A outer s H E) fa 1 0 2 f_are_unlike := fun _ _ _ _ _ _ _ => fv_of (G_are_unlike.mono (by decide)) M.fv_are_unlike
  have V_lacks_some : ∀ (f : Addr) (cdv : Value) (A : Around) (outer : List PySem.Env) (s : Shared) (H : Hp) (E : XK), Fv (cxOf (L2.CX P w) P w K mg base N_first_row "first_row" (defScope s_first_row) f cdv A outer s H E) fa 1 1 2 f_lacks_some := fun _ _ _ _ _ _ _ => fv_of (G_lacks_some.mono (by decide)) M.fv_lacks_some
  refine cb_mk2 (pin := pin_first_row) (b := b_first_row) F sc_first_row rfl rfl rfl ?_
  intro f cdv A outer s H E hr
  have nd := sc_first_row.nd
  have hp : PassesOwn (model P w) (cxOf (L2.CX P w) P w K mg base N_first_row "first_row" (defScope s_first_row) f cdv A outer s H E).A (cxOf (L2.CX P w) P w K mg base N_first_row "first_row" (defScope s_first_row) f cdv A outer s H E).env (cxOf (L2.CX P w) P w K mg base N_first_row "first_row" (defScope s_first_row) f cdv A outer s H E).xe := passes_of rfl
  have hx : ∀ σ, PassesAt (L2.CX P w) (cxOf (L2.CX P w) P w K mg base N_first_row "first_row" (defScope s_first_row) f cdv A outer s H E) σ (WE (WE0 E) σ) := fun σ => passAt (takes_of rfl rfl rfl rfl) σ
  exact ⟨_, (ss_cons (ss_set 3 nd ((sf_tup (sfs_cons sf_i (sfs_cons sf_i sfs_nil)))).toE)
  (ss_cons (ss_set 4 nd ((sf_disp1 (hu_of hr) (sb_v 3) (sf_b).toB)).toE)
  (ss_cons (ss_set 5 nd ((sf_lst (sfs_cons (sf_tup (sfs_cons ((sb_v 3)).toF (sfs_cons (sf_tup sfs_nil) sfs_nil))) sfs_nil))).toE)
  (ss_cons (ss_set 6 nd (sf_i).toE)
  (ss_cons (ss_while FUEL hp ((sp_cmp op_lt ok_lt (sb_v 6) ((sf_b1 call_len ok_len PySem.boot_len M.m_len (sb_v 5))).toB (nomark _))).toE (ss_cons (ss_tup (((sb_ix (sb_v 5) (sb_v 6))).toF).toE (sg_tup rfl (sgs_cons (sg_tup rfl (sgs_cons (sg_name (i := 7) nd) (sgs_cons (sg_name (i := 8) nd) sgs_nil))) (sgs_cons (sg_name (i := 9) nd) sgs_nil))))
  (ss_cons (ss_if ((sp_val ((sf_call2 2 (V_are_unlike f cdv A outer s H E) (V_lacks_some f cdv A outer s H E) hr (sfs_cons ((sb_ix (sb_ix (sb_v 0) (sf_i).toB) (sb_v 7))).toF (sfs_cons ((sb_ix (sb_ix (sb_v 1) (sf_i).toB) (sb_v 8))).toF sfs_nil)))).toB (fun p => pt_val p))).toE (ss_one (ss_ret (((sb_v 9)).toF).toE)) ss_nil)
  (ss_cons (ss_for hp rfl (si_rng1 M.m_range (ses_cons (((sb_ix (sb_v 0) (sf_i).toB)).toF).toE ses_nil)) (sg_name (i := 10) nd) (ss_cons (ss_set 11 nd ((sf_tup (sfs_cons ((sb_ix (sb_ix (sb_ix (sb_v 0) (sf_i).toB) (sb_v 7)) (sb_v 10))).toF (sfs_cons ((sb_ix (sb_ix (sb_ix (sb_v 1) (sf_i).toB) (sb_v 8)) (sb_v 10))).toF sfs_nil)))).toE)
  (ss_one (ss_if ((sp_dnin (hu_of hr) (sb_v 11) (sb_v 4))).toE (ss_cons (ss_dput 4 (hu_of hr) (pv 4) (sb_v 11) (sf_b).toE)
  (ss_one (ss_drop (se_app 5 (pv 5) ((sf_tup (sfs_cons ((sb_v 11)).toF (sfs_cons (sf_op (fun p q => pe_op opAdd p q) ok_add (sb_v 9) ((sf_tup (sfs_cons ((sb_v 10)).toF sfs_nil))).toB) sfs_nil)))).toE (fun po pe => pe_bm PySem.F.plainAttrs_list PySem.F.slot_list_append PySem.F.type_list_append mt_append po (pa_cons pe pa_nil)))))) ss_nil))))
  (ss_one (ss_aug 6 (sf_i).toE (fun p => ps_aug (i := 6) nd rfl (by first | exact Or.inl rfl | exact Or.inr rfl) p ip_add)))))))
  (ss_one (ss_ret (sf_n).toE)))))))⟩
abbrev s_parting_row : Stmt := topS 4
abbrev N_parting_row : List Str := ["one", "other"]
abbrev ps_parting_row : List Str := ["one", "other"]
theorem sc_parting_row : FnScope N_parting_row ps_parting_row (defScope s_parting_row) := ⟨rfl, rfl, rfl, by decide +kernel, rfl, by decide +kernel, by decide +kernel⟩
def pin_parting_row : Pin := fun j => ([] : List Nat).contains j
abbrev b_parting_row : VS.Env → SR := (sRet (eF (fCall f_first_row (fCons (bP (bV 0)) (fCons (bP (bV 1)) (fCons (bC (.fn 0)) fNil))))))
def f_parting_row : List D → FR := mkF 2 2 pin_parting_row b_parting_row
theorem ok_parting_row (M : Mg mg fa) (C_first_row : Cb P w K mg base fa 2 "first_row" 3 f_first_row) (F : Fd K mg "parting_row" "parting_row" s_parting_row ps_parting_row) : Cb P w K mg base fa 3 "parting_row" 2 f_parting_row := by
  refine cb_mk2 (pin := pin_parting_row) (b := b_parting_row) F sc_parting_row rfl rfl rfl ?_
  intro f cdv A outer s H E hr
  have nd := sc_parting_row.nd
  have hp : PassesOwn (model P w) (cxOf (L2.CX P w) P w K mg base N_parting_row "parting_row" (defScope s_parting_row) f cdv A outer s H E).A (cxOf (L2.CX P w) P w K mg base N_parting_row "parting_row" (defScope s_parting_row) f cdv A outer s H E).env (cxOf (L2.CX P w) P w K mg base N_parting_row "parting_row" (defScope s_parting_row) f cdv A outer s H E).xe := passes_of rfl
  have hx : ∀ σ, PassesAt (L2.CX P w) (cxOf (L2.CX P w) P w K mg base N_parting_row "parting_row" (defScope s_parting_row) f cdv A outer s H E) σ (WE (WE0 E) σ) := fun σ => passAt (takes_of rfl rfl rfl rfl) σ
  exact ⟨_, (ss_one (ss_ret ((sf_callC C_first_row hr (sfs_cons ((sb_v 0)).toF (sfs_cons ((sb_v 1)).toF (sfs_cons (sf_f 0 M.fv_are_unlike) sfs_nil))))).toE))⟩
abbrev s_never_later : Stmt := topS 5
abbrev N_never_later : List Str := ["one", "other"]
abbrev ps_never_later : List Str := ["one", "other"]
theorem sc_never_later : FnScope N_never_later ps_never_later (defScope s_never_later) := ⟨rfl, rfl, rfl, by decide +kernel, rfl, by decide +kernel, by decide +kernel⟩
def pin_never_later : Pin := fun j => ([] : List Nat).contains j
abbrev b_never_later : VS.Env → SR := (sRet (eF (fCall f_first_row (fCons (bP (bV 0)) (fCons (bP (bV 1)) (fCons (bC (.fn 1)) fNil))))))
def f_never_later : List D → FR := mkF 2 2 pin_never_later b_never_later
theorem ok_never_later (M : Mg mg fa) (C_first_row : Cb P w K mg base fa 2 "first_row" 3 f_first_row) (F : Fd K mg "never_later" "never_later" s_never_later ps_never_later) : Cb P w K mg base fa 3 "never_later" 2 f_never_later := by
  refine cb_mk2 (pin := pin_never_later) (b := b_never_later) F sc_never_later rfl rfl rfl ?_
  intro f cdv A outer s H E hr
  have nd := sc_never_later.nd
  have hp : PassesOwn (model P w) (cxOf (L2.CX P w) P w K mg base N_never_later "never_later" (defScope s_never_later) f cdv A outer s H E).A (cxOf (L2.CX P w) P w K mg base N_never_later "never_later" (defScope s_never_later) f cdv A outer s H E).env (cxOf (L2.CX P w) P w K mg base N_never_later "never_later" (defScope s_never_later) f cdv A outer s H E).xe := passes_of rfl
  have hx : ∀ σ, PassesAt (L2.CX P w) (cxOf (L2.CX P w) P w K mg base N_never_later "never_later" (defScope s_never_later) f cdv A outer s H E) σ (WE (WE0 E) σ) := fun σ => passAt (takes_of rfl rfl rfl rfl) σ
  exact ⟨_, (ss_one (ss_ret ((sf_callC C_first_row hr (sfs_cons ((sb_v 0)).toF (sfs_cons ((sb_v 1)).toF (sfs_cons (sf_f 1 M.fv_lacks_some) sfs_nil))))).toE))⟩
abbrev s_law_answers : Stmt := topS 26
abbrev N_law_answers : List Str := ["one", "other", "dues"]
abbrev ps_law_answers : List Str := ["one", "other", "dues"]
theorem sc_law_answers : FnScope N_law_answers ps_law_answers (defScope s_law_answers) := ⟨rfl, rfl, rfl, by decide +kernel, rfl, by decide +kernel, by decide +kernel⟩
def pin_law_answers : Pin := fun j => ([2] : List Nat).contains j
abbrev b_law_answers : VS.Env → SR := (sSeq (sIf (pOr (pT (pNot (pB (fCall (f_law_same 3) (fCons (fCall f_parting_row (fCons (bP (bV 0)) (fCons (bP (bV 1)) fNil))) (fCons (bP (b2 oIx (bV 2) (bC (.int 0)))) fNil)))))) (pT (pNot (pB (fCall (f_law_same 3) (fCons (fCall f_never_later (fCons (bP (bV 0)) (fCons (bP (bV 1)) fNil))) (fCons (bP (b2 oIx (bV 2) (bC (.int 1)))) fNil))))))) (sRet (eF (bC (.bl false)))) sNil)
  (sSeq (sIf (pOr (pT (pNot (pB (fCall (f_law_same 3) (fCons (fCall f_never_later (fCons (bP (bV 1)) (fCons (bP (bV 0)) fNil))) (fCons (bP (b2 oIx (bV 2) (bC (.int 2)))) fNil)))))) (pT (pNot (pB (fCall (f_law_same 3) (fCons (fCall f_parting_row (fCons (bP (bV 1)) (fCons (bP (bV 0)) fNil))) (fCons (bP (b2 oIx (bV 2) (bC (.int 0)))) fNil))))))) (sRet (eF (bC (.bl false)))) sNil)
  (sRet (eF (fAnd (fCall (f_law_same 3) (fCons (fCall f_parting_row (fCons (bP (bV 0)) (fCons (bP (bV 1)) fNil))) (fCons (bP (b2 oIx (bV 2) (bC (.int 0)))) fNil))) (fCall (f_law_same 3) (fCons (fCall f_never_later (fCons (bP (bV 0)) (fCons (bP (bV 1)) fNil))) (fCons (bP (b2 oIx (bV 2) (bC (.int 1)))) fNil))))))))
def f_law_answers : List D → FR := mkF 3 3 pin_law_answers b_law_answers
theorem ok_law_answers (M : Mg mg fa) (C_law_same : Cb P w K mg base fa 4 "_law_same" 2 (f_law_same 3)) (C_parting_row : Cb P w K mg base fa 3 "parting_row" 2 f_parting_row) (C_never_later : Cb P w K mg base fa 3 "never_later" 2 f_never_later) (F : Fd K mg "_law_answers" "_law_answers" s_law_answers ps_law_answers) : Cb P w K mg base fa 5 "_law_answers" 3 f_law_answers := by
  refine cb_mk2 (pin := pin_law_answers) (b := b_law_answers) F sc_law_answers rfl rfl rfl ?_
  intro f cdv A outer s H E hr
  have nd := sc_law_answers.nd
  have hp : PassesOwn (model P w) (cxOf (L2.CX P w) P w K mg base N_law_answers "_law_answers" (defScope s_law_answers) f cdv A outer s H E).A (cxOf (L2.CX P w) P w K mg base N_law_answers "_law_answers" (defScope s_law_answers) f cdv A outer s H E).env (cxOf (L2.CX P w) P w K mg base N_law_answers "_law_answers" (defScope s_law_answers) f cdv A outer s H E).xe := passes_of rfl
  have hx : ∀ σ, PassesAt (L2.CX P w) (cxOf (L2.CX P w) P w K mg base N_law_answers "_law_answers" (defScope s_law_answers) f cdv A outer s H E) σ (WE (WE0 E) σ) := fun σ => passAt (takes_of rfl rfl rfl rfl) σ
  exact ⟨_, (ss_cons (ss_if ((spw_or ((sp_not (sp_val ((sf_callC C_law_same hr (sfs_cons (sf_callC C_parting_row hr (sfs_cons ((sb_v 0)).toF (sfs_cons ((sb_v 1)).toF sfs_nil))) (sfs_cons ((sb_ix (sb_v 2) (sf_i).toB)).toF sfs_nil)))).toB (fun p => pt_val p)))).toE (spw_or1 ((sp_not (sp_val ((sf_callC C_law_same hr (sfs_cons (sf_callC C_never_later hr (sfs_cons ((sb_v 0)).toF (sfs_cons ((sb_v 1)).toF sfs_nil))) (sfs_cons ((sb_ix (sb_v 2) (sf_i).toB)).toF sfs_nil)))).toB (fun p => pt_val p)))).toE))).p (ss_one (ss_ret (sf_b).toE)) ss_nil)
  (ss_cons (ss_if ((spw_or ((sp_not (sp_val ((sf_callC C_law_same hr (sfs_cons (sf_callC C_never_later hr (sfs_cons ((sb_v 1)).toF (sfs_cons ((sb_v 0)).toF sfs_nil))) (sfs_cons ((sb_ix (sb_v 2) (sf_i).toB)).toF sfs_nil)))).toB (fun p => pt_val p)))).toE (spw_or1 ((sp_not (sp_val ((sf_callC C_law_same hr (sfs_cons (sf_callC C_parting_row hr (sfs_cons ((sb_v 1)).toF (sfs_cons ((sb_v 0)).toF sfs_nil))) (sfs_cons ((sb_ix (sb_v 2) (sf_i).toB)).toF sfs_nil)))).toB (fun p => pt_val p)))).toE))).p (ss_one (ss_ret (sf_b).toE)) ss_nil)
  (ss_one (ss_ret ((sf_and (sf_callC C_law_same hr (sfs_cons (sf_callC C_parting_row hr (sfs_cons ((sb_v 0)).toF (sfs_cons ((sb_v 1)).toF sfs_nil))) (sfs_cons ((sb_ix (sb_v 2) (sf_i).toB)).toF sfs_nil))) (sf_one (sf_callC C_law_same hr (sfs_cons (sf_callC C_never_later hr (sfs_cons ((sb_v 0)).toF (sfs_cons ((sb_v 1)).toF sfs_nil))) (sfs_cons ((sb_ix (sb_v 2) (sf_i).toB)).toF sfs_nil)))))).toE))))⟩
abbrev s_law_parts_late : Stmt := topS 28
abbrev N_law_parts_late : List Str := ["d", "letters", "row", "question", "one", "other", "named", "is_more", "is_less", "letter"]
abbrev ps_law_parts_late : List Str := ["d"]
theorem sc_law_parts_late : FnScope N_law_parts_late ps_law_parts_late (defScope s_law_parts_late) := ⟨rfl, rfl, rfl, by decide +kernel, rfl, by decide +kernel, by decide +kernel⟩
def pin_law_parts_late : Pin := fun j => ([0] : List Nat).contains j
abbrev b_law_parts_late_1 : VS.Env → Res (D × VS.Env) := (eF (bC (.int 0)))
abbrev b_law_parts_late : VS.Env → SR := (sSeq (sAsg (e2 oAdd (eF (bC (.int 1))) (eCall f_law_draw (aLend 0 (aOwn (eF (bC (.int 8))) aNil)))) (bName pin_law_parts_late 1))
  (sSeq (sAsg (eCall f_law_row (aLend 0 (aOwn (eF (bP (bV 1))) (aOwn (e2 oAdd (eF (bC (.int 19))) (eCall f_law_draw (aLend 0 (aOwn (eF (bC (.int 21))) aNil)))) aNil)))) (bName pin_law_parts_late 2))
  (sSeq (sAsg (eCall f_law_draw (aLend 0 (aOwn (eF (bC (.int 5))) aNil))) (bName pin_law_parts_late 3))
  (sSeq (sAsg (eCall f_law_password (aLend 0 (aOwn (eF (bP (bV 1))) (aOwn (eF (bP (bV 2))) (aOwn (eF (fTup (fCons (bP (bV 3)) fNil))) aNil))))) (bName pin_law_parts_late 4))
  (sSeq (sIf (pE (e2 oEq (eCall f_law_draw (aLend 0 (aOwn (eF (bC (.int 2))) aNil))) (eF (bC (.int 0))))) (sSeq (sAsg (eTup (eCons (eF (bC (.str "trial"))) (eCons (eF (bP (bV 1))) (eCons (eTup (eCons (e1 oTupleP (eLc (iR1 (eCons (eF (bP (bV 1))) eNil)) (bName (pinOf [9]) 9) tYesE b_law_parts_late_1 [9])) eNil)) (eCons (eF (fTup (fCons (fTup fNil) fNil))) eNil))))) (bName pin_law_parts_late 5))
  (sRet (eF (fCall f_law_answers (fCons (bP (bV 4)) (fCons (bP (bV 5)) (fCons (fTup (fCons (bP (bV 2)) (fCons (bC .non) (fCons (bP (bV 2)) fNil)))) fNil))))))) sNil)
  (sSeq (sAsg (eCall f_law_pick (aLend 0 (aOwn (eF (fLst (fCons (fTup fNil) (fCons (fTup (fCons (bC (.int 0)) (fCons (bC (.int 1)) (fCons (bC (.int 2)) (fCons (bC (.int 3)) (fCons (bC (.int 4)) fNil)))))) (fCons (fTup (fCons (b2 oMod (b1 oInt (b2 oAdd (bV 3) (bC (.int 1)))) (bC (.int 5))) fNil)) fNil))))) aNil))) (bName pin_law_parts_late 6))
  (sSeq (sAsg (eF (fTup (fCons (bP (b2 oIx (bV 4) (bC (.int 0)))) (fCons (bP (b2 oIx (bV 4) (bC (.int 1)))) (fCons (bP (b2 oIx (bV 4) (bC (.int 2)))) (fCons (b2 oAdd (fSl (b2 oIx (bV 4) (bC (.int 3))) (fun _ => some none) (oPart (b1 oNeg (bC (.int 1))))) (fTup (fCons (bP (bV 6)) fNil))) fNil)))))) (bName pin_law_parts_late 5))
  (sSeq (sAsg (eF (b2 (oIn true) (bV 3) (bV 6))) (bName pin_law_parts_late 7))
  (sSeq (sAsg (eF (b2 oGt (b1 oLen (bV 6)) (bC (.int 0)))) (bName pin_law_parts_late 8))
  (sRet (eF (fCall f_law_answers (fCons (bP (bV 4)) (fCons (bP (bV 5)) (fCons (fTup (fCons (bP (bV 2)) (fCons (fIf (pB (bV 8)) (bP (bV 2)) (bC .non)) (fCons (fIf (pB (bV 7)) (bP (bV 2)) (bC .non)) fNil)))) fNil)))))))))))))))
def f_law_parts_late : List D → FR := mkF 1 10 pin_law_parts_late b_law_parts_late
theorem ok_law_parts_late (M : Mg mg fa) (C_law_draw : Cb P w K mg base fa 1 "_law_draw" 2 f_law_draw) (C_law_row : Cb P w K mg base fa 2 "_law_row" 3 f_law_row) (C_law_password : Cb P w K mg base fa 2 "_law_password" 4 f_law_password) (C_law_answers : Cb P w K mg base fa 5 "_law_answers" 3 f_law_answers) (C_law_pick : Cb P w K mg base fa 2 "_law_pick" 2 f_law_pick) (F : Fd K mg "_law_parts_late" "_law_parts_late" s_law_parts_late ps_law_parts_late) : Cb P w K mg base fa 6 "_law_parts_late" 1 f_law_parts_late := by
  refine cb_mk2 (pin := pin_law_parts_late) (b := b_law_parts_late) F sc_law_parts_late rfl rfl rfl ?_
  intro f cdv A outer s H E hr
  have nd := sc_law_parts_late.nd
  have hp : PassesOwn (model P w) (cxOf (L2.CX P w) P w K mg base N_law_parts_late "_law_parts_late" (defScope s_law_parts_late) f cdv A outer s H E).A (cxOf (L2.CX P w) P w K mg base N_law_parts_late "_law_parts_late" (defScope s_law_parts_late) f cdv A outer s H E).env (cxOf (L2.CX P w) P w K mg base N_law_parts_late "_law_parts_late" (defScope s_law_parts_late) f cdv A outer s H E).xe := passes_of rfl
  have hx : ∀ σ, PassesAt (L2.CX P w) (cxOf (L2.CX P w) P w K mg base N_law_parts_late "_law_parts_late" (defScope s_law_parts_late) f cdv A outer s H E) σ (WE (WE0 E) σ) := fun σ => passAt (takes_of rfl rfl rfl rfl) σ
  exact ⟨_, (ss_cons (ss_set 1 nd (se_op (fun p q => pe_op opAdd p q) ok_add (sf_i).toE (se_callC C_law_draw hr hx (sas_lend 0 (pv 0) (sas_own (sf_i).toE sas_nil)))))
  (ss_cons (ss_set 2 nd (se_callC C_law_row hr hx (sas_lend 0 (pv 0) (sas_own (((sb_v 1)).toF).toE (sas_own (se_op (fun p q => pe_op opAdd p q) ok_add (sf_i).toE (se_callC C_law_draw hr hx (sas_lend 0 (pv 0) (sas_own (sf_i).toE sas_nil)))) sas_nil)))))
  (ss_cons (ss_set 3 nd (se_callC C_law_draw hr hx (sas_lend 0 (pv 0) (sas_own (sf_i).toE sas_nil))))
  (ss_cons (ss_set 4 nd (se_callC C_law_password hr hx (sas_lend 0 (pv 0) (sas_own (((sb_v 1)).toF).toE (sas_own (((sb_v 2)).toF).toE (sas_own ((sf_tup (sfs_cons ((sb_v 3)).toF sfs_nil))).toE sas_nil))))))
  (ss_cons (ss_if (spe_cmp (op_eqD hr.units) ok_eq (se_callC C_law_draw hr hx (sas_lend 0 (pv 0) (sas_own (sf_i).toE sas_nil))) (sf_i).toE (nomark _)) (ss_cons (ss_set 5 nd (se_tup (ses_cons (sf_s).toE (ses_cons (((sb_v 1)).toF).toE (ses_cons (se_tup (ses_cons (se_t1 call_tuple_of ok_tupleP (by decide +kernel) M.m_tuple (se_lc (own := [("letter", 9)]) rfl nd (blkOk_by (by dsimp only [cxOf, Cx.blk, compEnvC, PyProof.Rows.envOfC, relabel, PySem.Env.kindOf]; first | decide +kernel | rfl)) (si_rng1 M.m_range (ses_cons (((sb_v 1)).toF).toE ses_nil)) (fun _ _ _ _ _ => SG.te ((sg_name (i := 9) nd)) (by first | rfl | dsimp only [Cx.blk, cn] | (dsimp only [Cx.blk, cn]; rfl))) (fun _ _ _ _ _ => STs.te (sts_nil) (by first | rfl | dsimp only [Cx.blk, cn] | (dsimp only [Cx.blk, cn]; rfl))) (fun _ _ _ _ _ => SE.te ((sf_i).toE) (by first | rfl | dsimp only [Cx.blk, cn] | (dsimp only [Cx.blk, cn]; rfl))))) ses_nil)) (ses_cons ((sf_tup (sfs_cons (sf_tup sfs_nil) sfs_nil))).toE ses_nil))))))
  (ss_one (ss_ret ((sf_callC C_law_answers hr (sfs_cons ((sb_v 4)).toF (sfs_cons ((sb_v 5)).toF (sfs_cons (sf_tup (sfs_cons ((sb_v 2)).toF (sfs_cons sf_n (sfs_cons ((sb_v 2)).toF sfs_nil)))) sfs_nil))))).toE))) ss_nil)
  (ss_cons (ss_set 6 nd (se_callC C_law_pick hr hx (sas_lend 0 (pv 0) (sas_own ((sf_lst (sfs_cons (sf_tup sfs_nil) (sfs_cons (sf_tup (sfs_cons sf_i (sfs_cons sf_i (sfs_cons sf_i (sfs_cons sf_i (sfs_cons sf_i sfs_nil)))))) (sfs_cons (sf_tup (sfs_cons (sf_op (fun p q => pe_op op_mod p q) ok_mod ((sf_t1 call_int1 ok_int (by decide +kernel) M.m_int ((sf_op (fun p q => pe_op opAdd p q) ok_add (sb_v 3) (sf_i).toB)).toB)).toB (sf_i).toB) sfs_nil)) sfs_nil))))).toE sas_nil))))
  (ss_cons (ss_set 5 nd ((sf_tup (sfs_cons ((sb_ix (sb_v 4) (sf_i).toB)).toF (sfs_cons ((sb_ix (sb_v 4) (sf_i).toB)).toF (sfs_cons ((sb_ix (sb_v 4) (sf_i).toB)).toF (sfs_cons (sf_op (fun p q => pe_op opAdd p q) ok_add ((sf_sl (sb_ix (sb_v 4) (sf_i).toB) spo_none (spo_some ((sf_u (fun p => pe_un un_neg p) (fun _ _ _ h => h) ok_neg (sf_i).toB)).toB))).toB ((sf_tup (sfs_cons ((sb_v 6)).toF sfs_nil))).toB) sfs_nil)))))).toE)
  (ss_cons (ss_set 7 nd ((sf_op (fun p q => pe_cmpR op_notIn_seq p q (by rfl)) (ok_in (neg := true)) (sb_v 3) (sb_v 6))).toE)
  (ss_cons (ss_set 8 nd ((sf_op (fun p q => pe_cmpR op_gt p q (nomark _)) ok_gt ((sf_b1 call_len ok_len PySem.boot_len M.m_len (sb_v 6))).toB (sf_i).toB)).toE)
  (ss_one (ss_ret ((sf_callC C_law_answers hr (sfs_cons ((sb_v 4)).toF (sfs_cons ((sb_v 5)).toF (sfs_cons (sf_tup (sfs_cons ((sb_v 2)).toF (sfs_cons (sf_if (sp_val (sb_v 8) (fun p => pt_val p)) ((sb_v 2)).toF sf_n) (sfs_cons (sf_if (sp_val (sb_v 7) (fun p => pt_val p)) ((sb_v 2)).toF sf_n) sfs_nil)))) sfs_nil))))).toE)))))))))))⟩
abbrev s_law_turns_late : Stmt := topS 29
abbrev N_law_turns_late : List Str := ["d", "sizes", "size", "other_size", "at", "other_at", "one_names", "other_names", "dues", "count", "left", "right", "k", "is_due", "rows", "other_rows", "one", "state", "step"]
abbrev ps_law_turns_late : List Str := ["d"]
theorem sc_law_turns_late : FnScope N_law_turns_late ps_law_turns_late (defScope s_law_turns_late) := ⟨rfl, rfl, rfl, by decide +kernel, rfl, by decide +kernel, by decide +kernel⟩
def pin_law_turns_late : Pin := fun j => ([0] : List Nat).contains j
abbrev b_law_turns_late_1 : VS.Env → Res (D × VS.Env) := (eF (fIf (pB (b2 oEq (bV 17) (bV 4))) (fTup fNil) (fTup (fCons (bC (.int 0)) fNil))))
abbrev b_law_turns_late_2 : VS.Env → Res (D × VS.Env) := (eF (fIf (pB (b2 oEq (bV 17) (bV 5))) (fTup (fCons (bC (.int 0)) fNil)) (fTup fNil)))
abbrev b_law_turns_late_3 : VS.Env → Res (D × VS.Env) := (eF (bC (.int 0)))
abbrev b_law_turns_late_4 : VS.Env → SR := (sIf (pAnd (pT (pB (bV 13))) (pT (pB (b2 oIs (b2 oIx (bV 8) (bV 12)) (bC .non))))) (sSetL 8 lVar (bV 12) (e1 oTupleP (eLc (iR1 (eCons (eF (bP (bV 9))) eNil)) (bName (pinOf [18]) 18) tYesE b_law_turns_late_3 [18]))) sNil)
abbrev b_law_turns_late_5 : VS.Env → SR := (sSeq (sAsg (eF (b2 oNe (b2 oMod (b1 oInt (bV 9)) (bV 2)) (bV 4))) (bName pin_law_turns_late 10))
  (sSeq (sAsg (eF (b2 oEq (b2 oMod (b1 oInt (bV 9)) (bV 3)) (bV 5))) (bName pin_law_turns_late 11))
  (sFor (iS (eF (fLst (fCons (fTup (fCons (bC (.int 0)) (fCons (b2 oNe (bV 10) (bV 11)) fNil))) (fCons (fTup (fCons (bC (.int 1)) (fCons (fAnd (bP (bV 11)) (fNot (bP (bV 10)))) fNil))) (fCons (fTup (fCons (bC (.int 2)) (fCons (fAnd (bP (bV 10)) (fNot (bP (bV 11)))) fNil))) fNil)))))) (bTup 2 (bCons (bName pin_law_turns_late 12) (bCons (bName pin_law_turns_late 13) bNil))) b_law_turns_late_4)))
abbrev b_law_turns_late_6 : VS.Env → Res (D × VS.Env) := (eF (fTup (fCons (fIf (pB (b2 oLt (bV 17) (b2 oSub (bV 2) (bC (.int 1))))) (b2 oAdd (bV 17) (bC (.int 1))) (bC (.int 0))) fNil)))
abbrev b_law_turns_late_7 : VS.Env → Res (D × VS.Env) := (eF (fTup (fCons (fIf (pB (b2 oLt (bV 17) (b2 oSub (bV 3) (bC (.int 1))))) (b2 oAdd (bV 17) (bC (.int 1))) (bC (.int 0))) fNil)))
abbrev b_law_turns_late : VS.Env → SR := (sSeq (sAsg (eLst (eCons (eF (fTup (fCons (bC (.int 40)) (fCons (bC (.int 39)) fNil)))) (eCons (eF (fTup (fCons (bC (.int 39)) (fCons (bC (.int 40)) fNil)))) (eCons (eF (fTup (fCons (bC (.int 37)) (fCons (bC (.int 40)) fNil)))) (eCons (eF (fTup (fCons (bC (.int 40)) (fCons (bC (.int 30)) fNil)))) (eCons (eF (fTup (fCons (bC (.int 36)) (fCons (bC (.int 24)) fNil)))) (eCons (eF (fTup (fCons (bC (.int 7)) (fCons (bC (.int 5)) fNil)))) (eCons (eTup (eCons (e2 oAdd (eF (bC (.int 1))) (eCall f_law_draw (aLend 0 (aOwn (eF (bC (.int 40))) aNil)))) (eCons (e2 oAdd (eF (bC (.int 1))) (eCall f_law_draw (aLend 0 (aOwn (eF (bC (.int 40))) aNil)))) eNil))) eNil)))))))) (bName pin_law_turns_late 1))
  (sSeq (sAsg (eCall f_law_pick (aLend 0 (aLend 1 aNil))) (bTup 2 (bCons (bName pin_law_turns_late 2) (bCons (bName pin_law_turns_late 3) bNil))))
  (sSeq (sAsg (eTup (eCons (eCall f_law_draw (aLend 0 (aOwn (eF (bP (bV 2))) aNil))) (eCons (eCall f_law_draw (aLend 0 (aOwn (eF (bP (bV 3))) aNil))) eNil))) (bTup 2 (bCons (bName pin_law_turns_late 4) (bCons (bName pin_law_turns_late 5) bNil))))
  (sSeq (sAsg (eLc (iR1 (eCons (eF (bP (bV 2))) eNil)) (bName (pinOf [17]) 17) tYesE b_law_turns_late_1 [17]) (bName pin_law_turns_late 6))
  (sSeq (sAsg (eLc (iR1 (eCons (eF (bP (bV 3))) eNil)) (bName (pinOf [17]) 17) tYesE b_law_turns_late_2 [17]) (bName pin_law_turns_late 7))
  (sSeq (sAsg (eF (fLst (fCons (bC .non) (fCons (bC .non) (fCons (bC .non) fNil))))) (bName pin_law_turns_late 8))
  (sSeq (sFor (iR1 (eCons (eF (b2 oMul (bV 2) (bV 3))) eNil)) (bName pin_law_turns_late 9) b_law_turns_late_5)
  (sSeq (sAsg (e1 oTupleP (eLc (iR1 (eCons (eF (bP (bV 2))) eNil)) (bName (pinOf [17]) 17) tYesE b_law_turns_late_6 [17])) (bName pin_law_turns_late 14))
  (sSeq (sAsg (e1 oTupleP (eLc (iR1 (eCons (eF (bP (bV 3))) eNil)) (bName (pinOf [17]) 17) tYesE b_law_turns_late_7 [17])) (bName pin_law_turns_late 15))
  (sSeq (sAsg (eF (fTup (fCons (bC (.str "trial")) (fCons (bC (.int 1)) (fCons (bP (bV 14)) (fCons (b1 oTupleP (bV 6)) fNil)))))) (bName pin_law_turns_late 16))
  (sRet (eCall f_law_answers (aOwn (eF (bP (bV 16))) (aOwn (eF (fTup (fCons (bC (.str "trial")) (fCons (bC (.int 1)) (fCons (bP (bV 15)) (fCons (b1 oTupleP (bV 7)) fNil)))))) (aLend 8 aNil)))))))))))))))
def f_law_turns_late : List D → FR := mkF 1 19 pin_law_turns_late b_law_turns_late
theorem ok_law_turns_late (M : Mg mg fa) (C_law_draw : Cb P w K mg base fa 1 "_law_draw" 2 f_law_draw) (C_law_pick : Cb P w K mg base fa 2 "_law_pick" 2 f_law_pick) (C_law_answers : Cb P w K mg base fa 5 "_law_answers" 3 f_law_answers) (F : Fd K mg "_law_turns_late" "_law_turns_late" s_law_turns_late ps_law_turns_late) : Cb P w K mg base fa 6 "_law_turns_late" 1 f_law_turns_late := by
  refine cb_mk2 (pin := pin_law_turns_late) (b := b_law_turns_late) F sc_law_turns_late rfl rfl rfl ?_
  intro f cdv A outer s H E hr
  have nd := sc_law_turns_late.nd
  have hp : PassesOwn (model P w) (cxOf (L2.CX P w) P w K mg base N_law_turns_late "_law_turns_late" (defScope s_law_turns_late) f cdv A outer s H E).A (cxOf (L2.CX P w) P w K mg base N_law_turns_late "_law_turns_late" (defScope s_law_turns_late) f cdv A outer s H E).env (cxOf (L2.CX P w) P w K mg base N_law_turns_late "_law_turns_late" (defScope s_law_turns_late) f cdv A outer s H E).xe := passes_of rfl
  have hx : ∀ σ, PassesAt (L2.CX P w) (cxOf (L2.CX P w) P w K mg base N_law_turns_late "_law_turns_late" (defScope s_law_turns_late) f cdv A outer s H E) σ (WE (WE0 E) σ) := fun σ => passAt (takes_of rfl rfl rfl rfl) σ
  exact ⟨_, (ss_cons (ss_set 1 nd (se_lst (ses_cons ((sf_tup (sfs_cons sf_i (sfs_cons sf_i sfs_nil)))).toE (ses_cons ((sf_tup (sfs_cons sf_i (sfs_cons sf_i sfs_nil)))).toE (ses_cons ((sf_tup (sfs_cons sf_i (sfs_cons sf_i sfs_nil)))).toE (ses_cons ((sf_tup (sfs_cons sf_i (sfs_cons sf_i sfs_nil)))).toE (ses_cons ((sf_tup (sfs_cons sf_i (sfs_cons sf_i sfs_nil)))).toE (ses_cons ((sf_tup (sfs_cons sf_i (sfs_cons sf_i sfs_nil)))).toE (ses_cons (se_tup (ses_cons (se_op (fun p q => pe_op opAdd p q) ok_add (sf_i).toE (se_callC C_law_draw hr hx (sas_lend 0 (pv 0) (sas_own (sf_i).toE sas_nil)))) (ses_cons (se_op (fun p q => pe_op opAdd p q) ok_add (sf_i).toE (se_callC C_law_draw hr hx (sas_lend 0 (pv 0) (sas_own (sf_i).toE sas_nil)))) ses_nil))) ses_nil)))))))))
  (ss_cons (ss_tup (se_callC C_law_pick hr hx (sas_lend 0 (pv 0) (sas_lend 1 (pv 1) sas_nil))) (sg_tup rfl (sgs_cons (sg_name (i := 2) nd) (sgs_cons (sg_name (i := 3) nd) sgs_nil))))
  (ss_cons (ss_tup (se_tup (ses_cons (se_callC C_law_draw hr hx (sas_lend 0 (pv 0) (sas_own (((sb_v 2)).toF).toE sas_nil))) (ses_cons (se_callC C_law_draw hr hx (sas_lend 0 (pv 0) (sas_own (((sb_v 3)).toF).toE sas_nil))) ses_nil))) (sg_tup rfl (sgs_cons (sg_name (i := 4) nd) (sgs_cons (sg_name (i := 5) nd) sgs_nil))))
  (ss_cons (ss_setLc 6 (own := [("state", 17)]) rfl nd (blkOk_by (by dsimp only [cxOf, Cx.blk, compEnvC, PyProof.Rows.envOfC, relabel, PySem.Env.kindOf]; first | decide +kernel | rfl)) (si_rng1 M.m_range (ses_cons (((sb_v 2)).toF).toE ses_nil)) (fun _ _ _ _ _ => SG.te ((sg_name (i := 17) nd)) (by first | rfl | dsimp only [Cx.blk, cn] | (dsimp only [Cx.blk, cn]; rfl))) (fun _ _ _ _ _ => STs.te (sts_nil) (by first | rfl | dsimp only [Cx.blk, cn] | (dsimp only [Cx.blk, cn]; rfl))) (fun _ _ _ _ _ => SE.te (((sf_if (sp_cmp (op_eqD hr.units) ok_eq (sb_v 17) (sb_v 4) (nomark _)) (sf_tup sfs_nil) (sf_tup (sfs_cons sf_i sfs_nil)))).toE) (by first | rfl | dsimp only [Cx.blk, cn] | (dsimp only [Cx.blk, cn]; rfl))))
  (ss_cons (ss_setLc 7 (own := [("state", 17)]) rfl nd (blkOk_by (by dsimp only [cxOf, Cx.blk, compEnvC, PyProof.Rows.envOfC, relabel, PySem.Env.kindOf]; first | decide +kernel | rfl)) (si_rng1 M.m_range (ses_cons (((sb_v 3)).toF).toE ses_nil)) (fun _ _ _ _ _ => SG.te ((sg_name (i := 17) nd)) (by first | rfl | dsimp only [Cx.blk, cn] | (dsimp only [Cx.blk, cn]; rfl))) (fun _ _ _ _ _ => STs.te (sts_nil) (by first | rfl | dsimp only [Cx.blk, cn] | (dsimp only [Cx.blk, cn]; rfl))) (fun _ _ _ _ _ => SE.te (((sf_if (sp_cmp (op_eqD hr.units) ok_eq (sb_v 17) (sb_v 5) (nomark _)) (sf_tup (sfs_cons sf_i sfs_nil)) (sf_tup sfs_nil))).toE) (by first | rfl | dsimp only [Cx.blk, cn] | (dsimp only [Cx.blk, cn]; rfl))))
  (ss_cons (ss_set 8 nd ((sf_lst (sfs_cons sf_n (sfs_cons sf_n (sfs_cons sf_n sfs_nil))))).toE)
  (ss_cons (ss_for hp rfl (si_rng1 M.m_range (ses_cons ((sf_op (fun p q => pe_op (opOr op_mul op_mulW) p q) ok_mul (sb_v 2) (sb_v 3))).toE ses_nil)) (sg_name (i := 9) nd) (ss_cons (ss_set 10 nd ((sf_op (fun p q => pe_cmpR (op_neD hr.units) p q (nomark _)) ok_ne ((sf_op (fun p q => pe_op op_mod p q) ok_mod ((sf_t1 call_int1 ok_int (by decide +kernel) M.m_int (sb_v 9))).toB (sb_v 2))).toB (sb_v 4))).toE)
  (ss_cons (ss_set 11 nd ((sf_op (fun p q => pe_cmpR (op_eqD hr.units) p q (nomark _)) ok_eq ((sf_op (fun p q => pe_op op_mod p q) ok_mod ((sf_t1 call_int1 ok_int (by decide +kernel) M.m_int (sb_v 9))).toB (sb_v 3))).toB (sb_v 5))).toE)
  (ss_one (ss_for hp rfl (si_seq ((sf_lst (sfs_cons (sf_tup (sfs_cons sf_i (sfs_cons (sf_op (fun p q => pe_cmpR (op_neD hr.units) p q (nomark _)) ok_ne (sb_v 10) (sb_v 11)) sfs_nil))) (sfs_cons (sf_tup (sfs_cons sf_i (sfs_cons (sf_and ((sb_v 11)).toF (sf_one (sf_not ((sb_v 10)).toF))) sfs_nil))) (sfs_cons (sf_tup (sfs_cons sf_i (sfs_cons (sf_and ((sb_v 10)).toF (sf_one (sf_not ((sb_v 11)).toF))) sfs_nil))) sfs_nil))))).toE) (sg_tup rfl (sgs_cons (sg_name (i := 12) nd) (sgs_cons (sg_name (i := 13) nd) sgs_nil))) (ss_one (ss_if ((spw_and ((sp_val (sb_v 13) (fun p => pt_val p))).toE (spw_and1 ((sp_cmp op_isN ok_is (sb_ix (sb_v 8) (sb_v 12)) (sf_n).toB (nomark _))).toE))).p (ss_one (ss_setL (sl_var 8) (sb_v 12) (se_t1 call_tuple_of ok_tupleP (by decide +kernel) M.m_tuple (se_lc (own := [("step", 18)]) rfl nd (blkOk_by (by dsimp only [cxOf, Cx.blk, compEnvC, PyProof.Rows.envOfC, relabel, PySem.Env.kindOf]; first | decide +kernel | rfl)) (si_rng1 M.m_range (ses_cons (((sb_v 9)).toF).toE ses_nil)) (fun _ _ _ _ _ => SG.te ((sg_name (i := 18) nd)) (by first | rfl | dsimp only [Cx.blk, cn] | (dsimp only [Cx.blk, cn]; rfl))) (fun _ _ _ _ _ => STs.te (sts_nil) (by first | rfl | dsimp only [Cx.blk, cn] | (dsimp only [Cx.blk, cn]; rfl))) (fun _ _ _ _ _ => SE.te ((sf_i).toE) (by first | rfl | dsimp only [Cx.blk, cn] | (dsimp only [Cx.blk, cn]; rfl))))) (fun pe po pi => ps_asg pe (pg_sub po pi set_list)))) ss_nil)))))))
  (ss_cons (ss_set 14 nd (se_t1 call_tuple_of ok_tupleP (by decide +kernel) M.m_tuple (se_lc (own := [("state", 17)]) rfl nd (blkOk_by (by dsimp only [cxOf, Cx.blk, compEnvC, PyProof.Rows.envOfC, relabel, PySem.Env.kindOf]; first | decide +kernel | rfl)) (si_rng1 M.m_range (ses_cons (((sb_v 2)).toF).toE ses_nil)) (fun _ _ _ _ _ => SG.te ((sg_name (i := 17) nd)) (by first | rfl | dsimp only [Cx.blk, cn] | (dsimp only [Cx.blk, cn]; rfl))) (fun _ _ _ _ _ => STs.te (sts_nil) (by first | rfl | dsimp only [Cx.blk, cn] | (dsimp only [Cx.blk, cn]; rfl))) (fun _ _ _ _ _ => SE.te (((sf_tup (sfs_cons (sf_if (sp_cmp op_lt ok_lt (sb_v 17) ((sf_op (fun p q => pe_op op_sub p q) ok_sub (sb_v 2) (sf_i).toB)).toB (nomark _)) (sf_op (fun p q => pe_op opAdd p q) ok_add (sb_v 17) (sf_i).toB) sf_i) sfs_nil))).toE) (by first | rfl | dsimp only [Cx.blk, cn] | (dsimp only [Cx.blk, cn]; rfl))))))
  (ss_cons (ss_set 15 nd (se_t1 call_tuple_of ok_tupleP (by decide +kernel) M.m_tuple (se_lc (own := [("state", 17)]) rfl nd (blkOk_by (by dsimp only [cxOf, Cx.blk, compEnvC, PyProof.Rows.envOfC, relabel, PySem.Env.kindOf]; first | decide +kernel | rfl)) (si_rng1 M.m_range (ses_cons (((sb_v 3)).toF).toE ses_nil)) (fun _ _ _ _ _ => SG.te ((sg_name (i := 17) nd)) (by first | rfl | dsimp only [Cx.blk, cn] | (dsimp only [Cx.blk, cn]; rfl))) (fun _ _ _ _ _ => STs.te (sts_nil) (by first | rfl | dsimp only [Cx.blk, cn] | (dsimp only [Cx.blk, cn]; rfl))) (fun _ _ _ _ _ => SE.te (((sf_tup (sfs_cons (sf_if (sp_cmp op_lt ok_lt (sb_v 17) ((sf_op (fun p q => pe_op op_sub p q) ok_sub (sb_v 3) (sf_i).toB)).toB (nomark _)) (sf_op (fun p q => pe_op opAdd p q) ok_add (sb_v 17) (sf_i).toB) sf_i) sfs_nil))).toE) (by first | rfl | dsimp only [Cx.blk, cn] | (dsimp only [Cx.blk, cn]; rfl))))))
  (ss_cons (ss_set 16 nd ((sf_tup (sfs_cons sf_s (sfs_cons sf_i (sfs_cons ((sb_v 14)).toF (sfs_cons (sf_t1 call_tuple_of ok_tupleP (by decide +kernel) M.m_tuple (sb_v 6)) sfs_nil)))))).toE)
  (ss_one (ss_ret (se_callC C_law_answers hr hx (sas_own (((sb_v 16)).toF).toE (sas_own ((sf_tup (sfs_cons sf_s (sfs_cons sf_i (sfs_cons ((sb_v 15)).toF (sfs_cons (sf_t1 call_tuple_of ok_tupleP (by decide +kernel) M.m_tuple (sb_v 7)) sfs_nil)))))).toE (sas_lend 8 (pv 8) sas_nil))))))))))))))))⟩
abbrev s_law_renamed : Stmt := topS 25
abbrev N_law_renamed : List Str := ["d", "trial", "is_less", "names", "state", "question", "one"]
abbrev ps_law_renamed : List Str := ["d", "trial", "is_less"]
theorem sc_law_renamed : FnScope N_law_renamed ps_law_renamed (defScope s_law_renamed) := ⟨rfl, rfl, rfl, by decide +kernel, rfl, by decide +kernel, by decide +kernel⟩
def pin_law_renamed : Pin := fun j => ([0] : List Nat).contains j
abbrev b_law_renamed_1 : VS.Env → Res (D × VS.Env) := (eF (bP (bV 6)))
abbrev b_law_renamed : VS.Env → SR := (sSeq (sAsg (eF (b1 oList (b2 oIx (bV 1) (bC (.int 3))))) (bName pin_law_renamed 3))
  (sSeq (sAsg (eCall f_law_draw (aLend 0 (aOwn (eF (b1 oLen (bV 3))) aNil))) (bName pin_law_renamed 4))
  (sSeq (sAsg (eCall f_law_draw (aLend 0 (aOwn (eF (bC (.int 5))) aNil))) (bName pin_law_renamed 5))
  (sSeq (sIf (pT (pB (b2 (oIn false) (bV 5) (b2 oIx (bV 3) (bV 4))))) (sSetL 3 lVar (bV 4) (e1 oTupleP (eLc (iS (eF (bP (b2 oIx (bV 3) (bV 4))))) (bName (pinOf [6]) 6) (pT (pB (b2 oNe (bV 6) (bV 5)))) b_law_renamed_1 [6]))) (sIf (pT (pNot (pB (bV 2)))) (sSetL 3 lVar (bV 4) (eF (b1 oTupleP (b1 oSorted (b2 oAdd (b2 oIx (bV 3) (bV 4)) (fTup (fCons (bP (bV 5)) fNil))))))) sNil))
  (sRet (eF (fTup (fCons (bP (b2 oIx (bV 1) (bC (.int 0)))) (fCons (bP (b2 oIx (bV 1) (bC (.int 1)))) (fCons (bP (b2 oIx (bV 1) (bC (.int 2)))) (fCons (b1 oTupleP (bV 3)) fNil)))))))))))
def f_law_renamed : List D → FR := mkF 3 7 pin_law_renamed b_law_renamed
theorem ok_law_renamed (M : Mg mg fa) (C_law_draw : Cb P w K mg base fa 1 "_law_draw" 2 f_law_draw) (F : Fd K mg "_law_renamed" "_law_renamed" s_law_renamed ps_law_renamed) : Cb P w K mg base fa 2 "_law_renamed" 3 f_law_renamed := by
  refine cb_mk2 (pin := pin_law_renamed) (b := b_law_renamed) F sc_law_renamed rfl rfl rfl ?_
  intro f cdv A outer s H E hr
  have nd := sc_law_renamed.nd
  have hp : PassesOwn (model P w) (cxOf (L2.CX P w) P w K mg base N_law_renamed "_law_renamed" (defScope s_law_renamed) f cdv A outer s H E).A (cxOf (L2.CX P w) P w K mg base N_law_renamed "_law_renamed" (defScope s_law_renamed) f cdv A outer s H E).env (cxOf (L2.CX P w) P w K mg base N_law_renamed "_law_renamed" (defScope s_law_renamed) f cdv A outer s H E).xe := passes_of rfl
  have hx : ∀ σ, PassesAt (L2.CX P w) (cxOf (L2.CX P w) P w K mg base N_law_renamed "_law_renamed" (defScope s_law_renamed) f cdv A outer s H E) σ (WE (WE0 E) σ) := fun σ => passAt (takes_of rfl rfl rfl rfl) σ
  exact ⟨_, (ss_cons (ss_set 3 nd ((sf_t1 call_list_of ok_list (by decide +kernel) M.m_list (sb_ix (sb_v 1) (sf_i).toB))).toE)
  (ss_cons (ss_set 4 nd (se_callC C_law_draw hr hx (sas_lend 0 (pv 0) (sas_own ((sf_b1 call_len ok_len PySem.boot_len M.m_len (sb_v 3))).toE sas_nil))))
  (ss_cons (ss_set 5 nd (se_callC C_law_draw hr hx (sas_lend 0 (pv 0) (sas_own (sf_i).toE sas_nil))))
  (ss_cons (ss_if ((sp_cmp op_in_seq (ok_in (neg := false)) (sb_v 5) (sb_ix (sb_v 3) (sb_v 4)) (by rfl))).toE (ss_one (ss_setL (sl_var 3) (sb_v 4) (se_t1 call_tuple_of ok_tupleP (by decide +kernel) M.m_tuple (se_lc (own := [("one", 6)]) rfl nd (blkOk_by (by dsimp only [cxOf, Cx.blk, compEnvC, PyProof.Rows.envOfC, relabel, PySem.Env.kindOf]; first | decide +kernel | rfl)) (si_seq (((sb_ix (sb_v 3) (sb_v 4))).toF).toE) (fun _ _ _ _ _ => SG.te ((sg_name (i := 6) nd)) (by first | rfl | dsimp only [Cx.blk, cn] | (dsimp only [Cx.blk, cn]; rfl))) (fun _ _ _ _ _ => STs.te ((sts_one ((sp_cmp (op_neD hr.units) ok_ne (sb_v 6) (sb_v 5) (nomark _))).toE)) (by first | rfl | dsimp only [Cx.blk, cn] | (dsimp only [Cx.blk, cn]; rfl))) (fun _ _ _ _ _ => SE.te ((((sb_v 6)).toF).toE) (by first | rfl | dsimp only [Cx.blk, cn] | (dsimp only [Cx.blk, cn]; rfl))))) (fun pe po pi => ps_asg pe (pg_sub po pi set_list)))) (ss_one (ss_if ((sp_not (sp_val (sb_v 2) (fun p => pt_val p)))).toE (ss_one (ss_setL (sl_var 3) (sb_v 4) ((sf_t1 call_tuple_of ok_tupleP (by decide +kernel) M.m_tuple ((sf_sorted M.m_sorted ((sf_op (fun p q => pe_op opAdd p q) ok_add (sb_ix (sb_v 3) (sb_v 4)) ((sf_tup (sfs_cons ((sb_v 5)).toF sfs_nil))).toB)).toB)).toB)).toE (fun pe po pi => ps_asg pe (pg_sub po pi set_list)))) ss_nil)))
  (ss_one (ss_ret ((sf_tup (sfs_cons ((sb_ix (sb_v 1) (sf_i).toB)).toF (sfs_cons ((sb_ix (sb_v 1) (sf_i).toB)).toF (sfs_cons ((sb_ix (sb_v 1) (sf_i).toB)).toF (sfs_cons (sf_t1 call_tuple_of ok_tupleP (by decide +kernel) M.m_tuple (sb_v 3)) sfs_nil)))))).toE))))))⟩
abbrev s_law_into : Stmt := topS 18
abbrev N_law_into : List Str := ["trial", "found", "letter", "into", "state"]
abbrev ps_law_into : List Str := ["trial"]
theorem sc_law_into : FnScope N_law_into ps_law_into (defScope s_law_into) := ⟨rfl, rfl, rfl, by decide +kernel, rfl, by decide +kernel, by decide +kernel⟩
def pin_law_into : Pin := fun j => ([] : List Nat).contains j
abbrev b_law_into_1 : VS.Env → Res (D × VS.Env) := (eF (fLst fNil))
abbrev b_law_into_2 : VS.Env → SR := (sDrop (eAppP 3 (lIx 3 lVar (b2 oIx (b2 oIx (b2 oIx (bV 0) (bC (.int 2))) (bV 4)) (bV 2))) (bP (bV 4))))
abbrev b_law_into_3 : VS.Env → SR := (sSeq (sAsg (eLc (iS (eF (bP (b2 oIx (bV 0) (bC (.int 2)))))) (bName (pinOf [4]) 4) tYesE b_law_into_1 [4]) (bName pin_law_into 3))
  (sSeq (sFor (iR1 (eCons (eF (b1 oLen (b2 oIx (bV 0) (bC (.int 2))))) eNil)) (bName pin_law_into 4) b_law_into_2)
  (sDrop (eApp 1 (eMov 3)))))
abbrev b_law_into : VS.Env → SR := (sSeq (sAsg (eF (fLst fNil)) (bName pin_law_into 1))
  (sSeq (sFor (iR1 (eCons (eF (bP (b2 oIx (bV 0) (bC (.int 1))))) eNil)) (bName pin_law_into 2) b_law_into_3)
  (sRet (eMov 1))))
def f_law_into : List D → FR := mkF 1 5 pin_law_into b_law_into
theorem ok_law_into (M : Mg mg fa) (F : Fd K mg "_law_into" "_law_into" s_law_into ps_law_into) : Cb P w K mg base fa 1 "_law_into" 1 f_law_into := by
  refine cb_mk2 (pin := pin_law_into) (b := b_law_into) F sc_law_into rfl rfl rfl ?_
  intro f cdv A outer s H E hr
  have nd := sc_law_into.nd
  have hp : PassesOwn (model P w) (cxOf (L2.CX P w) P w K mg base N_law_into "_law_into" (defScope s_law_into) f cdv A outer s H E).A (cxOf (L2.CX P w) P w K mg base N_law_into "_law_into" (defScope s_law_into) f cdv A outer s H E).env (cxOf (L2.CX P w) P w K mg base N_law_into "_law_into" (defScope s_law_into) f cdv A outer s H E).xe := passes_of rfl
  have hx : ∀ σ, PassesAt (L2.CX P w) (cxOf (L2.CX P w) P w K mg base N_law_into "_law_into" (defScope s_law_into) f cdv A outer s H E) σ (WE (WE0 E) σ) := fun σ => passAt (takes_of rfl rfl rfl rfl) σ
  exact ⟨_, (ss_cons (ss_set 1 nd ((sf_lst sfs_nil)).toE)
  (ss_cons (ss_for hp rfl (si_rng1 M.m_range (ses_cons (((sb_ix (sb_v 0) (sf_i).toB)).toF).toE ses_nil)) (sg_name (i := 2) nd) (ss_cons (ss_setLc 3 (own := [("state", 4)]) rfl nd (blkOk_by (by dsimp only [cxOf, Cx.blk, compEnvC, PyProof.Rows.envOfC, relabel, PySem.Env.kindOf]; first | decide +kernel | rfl)) (si_seq (((sb_ix (sb_v 0) (sf_i).toB)).toF).toE) (fun _ _ _ _ _ => SG.te ((sg_name (i := 4) nd)) (by first | rfl | dsimp only [Cx.blk, cn] | (dsimp only [Cx.blk, cn]; rfl))) (fun _ _ _ _ _ => STs.te (sts_nil) (by first | rfl | dsimp only [Cx.blk, cn] | (dsimp only [Cx.blk, cn]; rfl))) (fun _ _ _ _ _ => SE.te (((sf_lst sfs_nil)).toE) (by first | rfl | dsimp only [Cx.blk, cn] | (dsimp only [Cx.blk, cn]; rfl))))
  (ss_cons (ss_for hp rfl (si_rng1 M.m_range (ses_cons ((sf_b1 call_len ok_len PySem.boot_len M.m_len (sb_ix (sb_v 0) (sf_i).toB))).toE ses_nil)) (sg_name (i := 4) nd) (ss_one (ss_drop (se_appP (sl_ix (sl_var 3) (sb_ix (sb_ix (sb_ix (sb_v 0) (sf_i).toB) (sb_v 4)) (sb_v 2))) ((sb_v 4)).toF (fun po pe => pe_bm PySem.F.plainAttrs_list PySem.F.slot_list_append PySem.F.type_list_append mt_append po (pa_cons pe pa_nil))))))
  (ss_one (ss_drop (se_app 1 (pv 1) (se_mov 3) (fun po pe => pe_bm PySem.F.plainAttrs_list PySem.F.slot_list_append PySem.F.type_list_append mt_append po (pa_cons pe pa_nil))))))))
  (ss_one (ss_ret (se_mov 1)))))⟩
abbrev s_law_is_parted : Stmt := topS 17
abbrev N_law_is_parted : List Str := ["left", "right", "is_lack", "question"]
abbrev ps_law_is_parted : List Str := ["left", "right", "is_lack"]
theorem sc_law_is_parted : FnScope N_law_is_parted ps_law_is_parted (defScope s_law_is_parted) := ⟨rfl, rfl, rfl, by decide +kernel, rfl, by decide +kernel, by decide +kernel⟩
def pin_law_is_parted : Pin := fun j => ([] : List Nat).contains j
abbrev b_law_is_parted_1 : VS.Env → Res (D × VS.Env) := (eF (bP (bV 3)))
abbrev b_law_is_parted_2 : VS.Env → Res (D × VS.Env) := (eF (bP (bV 3)))
abbrev b_law_is_parted : VS.Env → SR := (sSeq (sIf (pT (pB (bV 2))) (sRet (e2 oGt (e1 oLen (eLc (iS (eF (bP (bV 1)))) (bName (pinOf [3]) 3) (pT (pB (b2 (oIn true) (bV 3) (bV 0)))) b_law_is_parted_2 [3])) (eF (bC (.int 0))))) sNil)
  (sRet (eF (b2 oNe (bV 0) (bV 1)))))
def f_law_is_parted : List D → FR := mkF 3 4 pin_law_is_parted b_law_is_parted
theorem ok_law_is_parted (M : Mg mg fa) (F : Fd K mg "_law_is_parted" "_law_is_parted" s_law_is_parted ps_law_is_parted) : Cb P w K mg base fa 1 "_law_is_parted" 3 f_law_is_parted := by
  refine cb_mk2 (pin := pin_law_is_parted) (b := b_law_is_parted) F sc_law_is_parted rfl rfl rfl ?_
  intro f cdv A outer s H E hr
  have nd := sc_law_is_parted.nd
  have hp : PassesOwn (model P w) (cxOf (L2.CX P w) P w K mg base N_law_is_parted "_law_is_parted" (defScope s_law_is_parted) f cdv A outer s H E).A (cxOf (L2.CX P w) P w K mg base N_law_is_parted "_law_is_parted" (defScope s_law_is_parted) f cdv A outer s H E).env (cxOf (L2.CX P w) P w K mg base N_law_is_parted "_law_is_parted" (defScope s_law_is_parted) f cdv A outer s H E).xe := passes_of rfl
  have hx : ∀ σ, PassesAt (L2.CX P w) (cxOf (L2.CX P w) P w K mg base N_law_is_parted "_law_is_parted" (defScope s_law_is_parted) f cdv A outer s H E) σ (WE (WE0 E) σ) := fun σ => passAt (takes_of rfl rfl rfl rfl) σ
  exact ⟨_, (ss_cons (ss_if ((sp_val (sb_v 2) (fun p => pt_val p))).toE (ss_one (ss_ret (se_op (fun p q => pe_cmpR op_gt p q (nomark _)) ok_gt (se_b1 call_len ok_len PySem.boot_len M.m_len (se_lc (own := [("question", 3)]) rfl nd (blkOk_by (by dsimp only [cxOf, Cx.blk, compEnvC, PyProof.Rows.envOfC, relabel, PySem.Env.kindOf]; first | decide +kernel | rfl)) (si_seq (((sb_v 1)).toF).toE) (fun _ _ _ _ _ => SG.te ((sg_name (i := 3) nd)) (by first | rfl | dsimp only [Cx.blk, cn] | (dsimp only [Cx.blk, cn]; rfl))) (fun _ _ _ _ _ => STs.te ((sts_one ((sp_cmp op_notIn_seq (ok_in (neg := true)) (sb_v 3) (sb_v 0) (by rfl))).toE)) (by first | rfl | dsimp only [Cx.blk, cn] | (dsimp only [Cx.blk, cn]; rfl))) (fun _ _ _ _ _ => SE.te ((((sb_v 3)).toF).toE) (by first | rfl | dsimp only [Cx.blk, cn] | (dsimp only [Cx.blk, cn]; rfl))))) (sf_i).toE))) ss_nil)
  (ss_one (ss_ret ((sf_op (fun p q => pe_cmpR (op_neD hr.units) p q (nomark _)) ok_ne (sb_v 0) (sb_v 1))).toE)))⟩
abbrev s_law_lengths : Stmt := topS 19
abbrev N_law_lengths : List Str := ["one", "other", "is_lack", "known", "waiting", "left", "cut", "into_one", "into_other", "turn", "pair", "letter", "right", "named", "is_cut"]
abbrev ps_law_lengths : List Str := ["one", "other", "is_lack"]
theorem sc_law_lengths : FnScope N_law_lengths ps_law_lengths (defScope s_law_lengths) := ⟨rfl, rfl, rfl, by decide +kernel, rfl, by decide +kernel, by decide +kernel⟩
def pin_law_lengths : Pin := fun j => ([] : List Nat).contains j
abbrev b_law_lengths_1 : VS.Env → Res (D × VS.Env) := (eF (fCall f_law_is_parted (fCons (bP (b2 oIx (b2 oIx (bV 0) (bC (.int 3))) (bV 5))) (fCons (bP (bV 13)) (fCons (bP (bV 2)) fNil)))))
abbrev b_law_lengths_2 : VS.Env → Res (D × VS.Env) := (eF (fIf (pB (bV 14)) (bC (.int 0)) (bC .non)))
abbrev b_law_lengths_3 : VS.Env → Res (D × VS.Env) := (eF (fTup (fCons (bP (bV 5)) (fCons (bP (bV 12)) fNil))))
abbrev b_law_lengths_4 : VS.Env → SR := (sSeq (sAsg (eLc (iS (eF (bP (b2 oIx (bV 1) (bC (.int 3)))))) (bName (pinOf [13]) 13) tYesE b_law_lengths_1 [13]) (bName pin_law_lengths 6))
  (sSeq (sDrop (eApp 3 (eLcP 6 (iPl 6 lVar) (bName (pinOf [14]) 14) tYesE b_law_lengths_2 [14])))
  (sDrop (eMeth 4 mExt (eLc (iR1 (eCons (eF (b1 oLen (bV 6))) eNil)) (bName (pinOf [12]) 12) (pT (pB (b2 oIx (bV 6) (bV 12)))) b_law_lengths_3 [12])))))
abbrev b_law_lengths_5 : VS.Env → SR := (sIf (pT (pB (b2 oIs (b2 oIx (b2 oIx (bV 3) (bV 5)) (bV 12)) (bC .non)))) (sSeq (sSetL 3 (lIx 3 lVar (bV 5)) (bV 12) (eF (b2 oAdd (b2 oIx (b2 oIx (bV 3) (b2 oIx (bV 10) (bC (.int 0)))) (b2 oIx (bV 10) (bC (.int 1)))) (bC (.int 1)))))
  (sDrop (eApp 4 (eF (fTup (fCons (bP (bV 5)) (fCons (bP (bV 12)) fNil))))))) sNil)
abbrev b_law_lengths_6 : VS.Env → SR := (sForP 8 (iPl 8 (lIx 8 (lIx 8 lVar (bV 11)) (b2 oIx (bV 10) (bC (.int 1))))) (bName (pinAdd (pinAdd pin_law_lengths 7) 8) 12) b_law_lengths_5)
abbrev b_law_lengths_7 : VS.Env → SR := (sForP 7 (iPl 7 (lIx 7 (lIx 7 lVar (bV 11)) (b2 oIx (bV 10) (bC (.int 0))))) (bName (pinAdd pin_law_lengths 7) 5) b_law_lengths_6)
abbrev b_law_lengths_8 : VS.Env → SR := (sSeq (sIf (pT (pB (b2 oGe (bV 9) (b1 oLen (bV 4))))) (sRet (eMov 3)) sNil)
  (sSeq (sAsg (eF (bP (b2 oIx (bV 4) (bV 9)))) (bName pin_law_lengths 10))
  (sFor (iR1 (eCons (eF (bP (b2 oIx (bV 0) (bC (.int 1))))) eNil)) (bName pin_law_lengths 11) b_law_lengths_7)))
abbrev b_law_lengths : VS.Env → SR := (sSeq (sAsg (eF (fLst fNil)) (bName pin_law_lengths 3))
  (sSeq (sAsg (eF (fLst fNil)) (bName pin_law_lengths 4))
  (sSeq (sFor (iR1 (eCons (eF (b1 oLen (b2 oIx (bV 0) (bC (.int 3))))) eNil)) (bName pin_law_lengths 5) b_law_lengths_4)
  (sSeq (sPar (eCons (eF (fCall f_law_into (fCons (bP (bV 0)) fNil))) (eCons (eF (fCall f_law_into (fCons (bP (bV 1)) fNil))) eNil)) (put2 pin_law_lengths 7 8))
  (sSeq (sFor (iR1 (eCons (eF (b2 oMul (b1 oLen (b2 oIx (bV 0) (bC (.int 3)))) (b1 oLen (b2 oIx (bV 1) (bC (.int 3)))))) eNil)) (bName pin_law_lengths 9) b_law_lengths_8)
  (sRet (eMov 3)))))))
def f_law_lengths : List D → FR := mkF 3 15 pin_law_lengths b_law_lengths
theorem ok_law_lengths (M : Mg mg fa) (C_law_is_parted : Cb P w K mg base fa 1 "_law_is_parted" 3 f_law_is_parted) (C_law_into : Cb P w K mg base fa 1 "_law_into" 1 f_law_into) (F : Fd K mg "_law_lengths" "_law_lengths" s_law_lengths ps_law_lengths) : Cb P w K mg base fa 2 "_law_lengths" 3 f_law_lengths := by
  refine cb_mk2 (pin := pin_law_lengths) (b := b_law_lengths) F sc_law_lengths rfl rfl rfl ?_
  intro f cdv A outer s H E hr
  have nd := sc_law_lengths.nd
  have hp : PassesOwn (model P w) (cxOf (L2.CX P w) P w K mg base N_law_lengths "_law_lengths" (defScope s_law_lengths) f cdv A outer s H E).A (cxOf (L2.CX P w) P w K mg base N_law_lengths "_law_lengths" (defScope s_law_lengths) f cdv A outer s H E).env (cxOf (L2.CX P w) P w K mg base N_law_lengths "_law_lengths" (defScope s_law_lengths) f cdv A outer s H E).xe := passes_of rfl
  have hx : ∀ σ, PassesAt (L2.CX P w) (cxOf (L2.CX P w) P w K mg base N_law_lengths "_law_lengths" (defScope s_law_lengths) f cdv A outer s H E) σ (WE (WE0 E) σ) := fun σ => passAt (takes_of rfl rfl rfl rfl) σ
  exact ⟨_, (ss_cons (ss_set 3 nd ((sf_lst sfs_nil)).toE)
  (ss_cons (ss_set 4 nd ((sf_lst sfs_nil)).toE)
  (ss_cons (ss_for hp rfl (si_rng1 M.m_range (ses_cons ((sf_b1 call_len ok_len PySem.boot_len M.m_len (sb_ix (sb_v 0) (sf_i).toB))).toE ses_nil)) (sg_name (i := 5) nd) (ss_cons (ss_set 6 nd (se_lc (own := [("named", 13)]) rfl nd (blkOk_by (by dsimp only [cxOf, Cx.blk, compEnvC, PyProof.Rows.envOfC, relabel, PySem.Env.kindOf]; first | decide +kernel | rfl)) (si_seq (((sb_ix (sb_v 1) (sf_i).toB)).toF).toE) (fun _ _ _ _ _ => SG.te ((sg_name (i := 13) nd)) (by first | rfl | dsimp only [Cx.blk, cn] | (dsimp only [Cx.blk, cn]; rfl))) (fun _ _ _ _ _ => STs.te (sts_nil) (by first | rfl | dsimp only [Cx.blk, cn] | (dsimp only [Cx.blk, cn]; rfl))) (fun _ _ _ _ _ => SE.te (((sf_callC C_law_is_parted hr (sfs_cons ((sb_ix (sb_ix (sb_v 0) (sf_i).toB) (sb_v 5))).toF (sfs_cons ((sb_v 13)).toF (sfs_cons ((sb_v 2)).toF sfs_nil))))).toE) (by first | rfl | dsimp only [Cx.blk, cn] | (dsimp only [Cx.blk, cn]; rfl)))))
  (ss_cons (ss_drop (se_app 3 (pv 3) (se_lcP (r := 6) (own := [("is_cut", 14)]) rfl nd (blkOk_by (by dsimp only [cxOf, Cx.blk, compEnvC, PyProof.Rows.envOfC, relabel, PySem.Env.kindOf]; first | decide +kernel | rfl)) (si_pl (sl_var 6)) (fun _ _ _ _ _ => SG.te ((sg_name (i := 14) nd)) (by first | rfl | dsimp only [Cx.blk, cn] | (dsimp only [Cx.blk, cn]; rfl))) (fun _ _ _ _ _ => STs.te (sts_nil) (by first | rfl | dsimp only [Cx.blk, cn] | (dsimp only [Cx.blk, cn]; rfl))) (fun _ _ _ _ _ => SE.te (((sf_if (sp_val (sb_v 14) (fun p => pt_val p)) sf_i sf_n)).toE) (by first | rfl | dsimp only [Cx.blk, cn] | (dsimp only [Cx.blk, cn]; rfl)))) (fun po pe => pe_bm PySem.F.plainAttrs_list PySem.F.slot_list_append PySem.F.type_list_append mt_append po (pa_cons pe pa_nil))))
  (ss_one (ss_drop (se_meth 4 ok_ext pu_ext (pv 4) (se_lc (own := [("right", 12)]) rfl nd (blkOk_by (by dsimp only [cxOf, Cx.blk, compEnvC, PyProof.Rows.envOfC, relabel, PySem.Env.kindOf]; first | decide +kernel | rfl)) (si_rng1 M.m_range (ses_cons ((sf_b1 call_len ok_len PySem.boot_len M.m_len (sb_v 6))).toE ses_nil)) (fun _ _ _ _ _ => SG.te ((sg_name (i := 12) nd)) (by first | rfl | dsimp only [Cx.blk, cn] | (dsimp only [Cx.blk, cn]; rfl))) (fun _ _ _ _ _ => STs.te ((sts_one ((sp_val (sb_ix (sb_v 6) (sb_v 12)) (fun p => pt_val p))).toE)) (by first | rfl | dsimp only [Cx.blk, cn] | (dsimp only [Cx.blk, cn]; rfl))) (fun _ _ _ _ _ => SE.te (((sf_tup (sfs_cons ((sb_v 5)).toF (sfs_cons ((sb_v 12)).toF sfs_nil)))).toE) (by first | rfl | dsimp only [Cx.blk, cn] | (dsimp only [Cx.blk, cn]; rfl)))) (fun po pe => pe_bm PySem.F.plainAttrs_list PySem.F.slot_list_extend PySem.F.type_list_extend mt_extend po (pa_cons pe pa_nil))))))))
  (ss_cons (ss_par2 7 8 rfl nd (ses_cons ((sf_callC C_law_into hr (sfs_cons ((sb_v 0)).toF sfs_nil))).toE (ses_cons ((sf_callC C_law_into hr (sfs_cons ((sb_v 1)).toF sfs_nil))).toE ses_nil)))
  (ss_cons (ss_for hp rfl (si_rng1 M.m_range (ses_cons ((sf_op (fun p q => pe_op (opOr op_mul op_mulW) p q) ok_mul ((sf_b1 call_len ok_len PySem.boot_len M.m_len (sb_ix (sb_v 0) (sf_i).toB))).toB ((sf_b1 call_len ok_len PySem.boot_len M.m_len (sb_ix (sb_v 1) (sf_i).toB))).toB)).toE ses_nil)) (sg_name (i := 9) nd) (ss_cons (ss_if ((sp_cmp op_ge ok_ge (sb_v 9) ((sf_b1 call_len ok_len PySem.boot_len M.m_len (sb_v 4))).toB (nomark _))).toE (ss_one (ss_ret (se_mov 3))) ss_nil)
  (ss_cons (ss_set 10 nd (((sb_ix (sb_v 4) (sb_v 9))).toF).toE)
  (ss_one (ss_for hp rfl (si_rng1 M.m_range (ses_cons (((sb_ix (sb_v 0) (sf_i).toB)).toF).toE ses_nil)) (sg_name (i := 11) nd) (ss_one (ss_forP (r := 7) hp rfl (si_pl (sl_ix (sl_ix (sl_var 7) (sb_v 11)) (sb_ix (sb_v 10) (sf_i).toB))) (sg_name (i := 5) nd) (ss_one (ss_forP (r := 8) hp rfl (si_pl (sl_ix (sl_ix (sl_var 8) (sb_v 11)) (sb_ix (sb_v 10) (sf_i).toB))) (sg_name (i := 12) nd) (ss_one (ss_if ((sp_cmp op_isN ok_is (sb_ix (sb_ix (sb_v 3) (sb_v 5)) (sb_v 12)) (sf_n).toB (nomark _))).toE (ss_cons (ss_setL (sl_ix (sl_var 3) (sb_v 5)) (sb_v 12) ((sf_op (fun p q => pe_op opAdd p q) ok_add (sb_ix (sb_ix (sb_v 3) (sb_ix (sb_v 10) (sf_i).toB)) (sb_ix (sb_v 10) (sf_i).toB)) (sf_i).toB)).toE (fun pe po pi => ps_asg pe (pg_sub po pi set_list)))
  (ss_one (ss_drop (se_app 4 (pv 4) ((sf_tup (sfs_cons ((sb_v 5)).toF (sfs_cons ((sb_v 12)).toF sfs_nil)))).toE (fun po pe => pe_bm PySem.F.plainAttrs_list PySem.F.slot_list_append PySem.F.type_list_append mt_append po (pa_cons pe pa_nil)))))) ss_nil)))))))))))
  (ss_one (ss_ret (se_mov 3))))))))⟩
abbrev s_law_due : Stmt := topS 20
abbrev N_law_due : List Str := ["one", "other", "is_lack", "known", "row", "left", "right", "rest", "letter", "after"]
abbrev ps_law_due : List Str := ["one", "other", "is_lack"]
theorem sc_law_due : FnScope N_law_due ps_law_due (defScope s_law_due) := ⟨rfl, rfl, rfl, by decide +kernel, rfl, by decide +kernel, by decide +kernel⟩
def pin_law_due : Pin := fun j => ([] : List Nat).contains j
abbrev b_law_due_1 : VS.Env → SR := (sSeq (sAsg (eF (fTup (fCons (bP (b2 oIx (b2 oIx (b2 oIx (bV 0) (bC (.int 2))) (bV 5)) (bV 8))) (fCons (bP (b2 oIx (b2 oIx (b2 oIx (bV 1) (bC (.int 2))) (bV 6)) (bV 8))) fNil)))) (bName pin_law_due 9))
  (sIf (pT (pB (b2 oEq (b2 oIx (b2 oIx (bV 3) (b2 oIx (bV 9) (bC (.int 0)))) (b2 oIx (bV 9) (bC (.int 1)))) (b2 oSub (bV 7) (bC (.int 1)))))) (sSeq (sPar (eCons (eF (b2 oAdd (bV 4) (fTup (fCons (bP (bV 8)) fNil)))) (eCons (eF (bP (b2 oIx (bV 9) (bC (.int 0))))) (eCons (eF (bP (b2 oIx (bV 9) (bC (.int 1))))) eNil))) (put3 pin_law_due 4 5 6))
  (fun E => .bk E)) sNil))
abbrev b_law_due_2 : VS.Env → SR := (sFor (iR1 (eCons (eF (bP (b2 oIx (bV 0) (bC (.int 1))))) eNil)) (bName pin_law_due 8) b_law_due_1)
abbrev b_law_due : VS.Env → SR := (sSeq (sAsg (eF (fCall f_law_lengths (fCons (bP (bV 0)) (fCons (bP (bV 1)) (fCons (bP (bV 2)) fNil))))) (bName pin_law_due 3))
  (sSeq (sIf (pT (pB (b2 oIs (b2 oIx (b2 oIx (bV 3) (bC (.int 0))) (bC (.int 0))) (bC .non)))) (sRet (eF (bC .non))) sNil)
  (sSeq (sAsg (eF (fTup (fCons (fTup fNil) (fCons (bC (.int 0)) (fCons (bC (.int 0)) fNil))))) (bTup 3 (bCons (bName pin_law_due 4) (bCons (bName pin_law_due 5) (bCons (bName pin_law_due 6) bNil)))))
  (sSeq (sFor (iR3 (eCons (eF (bP (b2 oIx (b2 oIx (bV 3) (bC (.int 0))) (bC (.int 0))))) (eCons (eF (bC (.int 0))) (eCons (eF (b1 oNeg (bC (.int 1)))) eNil)))) (bName pin_law_due 7) b_law_due_2)
  (sRet (eF (bP (bV 4))))))))
def f_law_due : List D → FR := mkF 3 10 pin_law_due b_law_due
theorem ok_law_due (M : Mg mg fa) (C_law_lengths : Cb P w K mg base fa 2 "_law_lengths" 3 f_law_lengths) (F : Fd K mg "_law_due" "_law_due" s_law_due ps_law_due) : Cb P w K mg base fa 3 "_law_due" 3 f_law_due := by
  refine cb_mk2 (pin := pin_law_due) (b := b_law_due) F sc_law_due rfl rfl rfl ?_
  intro f cdv A outer s H E hr
  have nd := sc_law_due.nd
  have hp : PassesOwn (model P w) (cxOf (L2.CX P w) P w K mg base N_law_due "_law_due" (defScope s_law_due) f cdv A outer s H E).A (cxOf (L2.CX P w) P w K mg base N_law_due "_law_due" (defScope s_law_due) f cdv A outer s H E).env (cxOf (L2.CX P w) P w K mg base N_law_due "_law_due" (defScope s_law_due) f cdv A outer s H E).xe := passes_of rfl
  have hx : ∀ σ, PassesAt (L2.CX P w) (cxOf (L2.CX P w) P w K mg base N_law_due "_law_due" (defScope s_law_due) f cdv A outer s H E) σ (WE (WE0 E) σ) := fun σ => passAt (takes_of rfl rfl rfl rfl) σ
  exact ⟨_, (ss_cons (ss_set 3 nd ((sf_callC C_law_lengths hr (sfs_cons ((sb_v 0)).toF (sfs_cons ((sb_v 1)).toF (sfs_cons ((sb_v 2)).toF sfs_nil))))).toE)
  (ss_cons (ss_if ((sp_cmp op_isN ok_is (sb_ix (sb_ix (sb_v 3) (sf_i).toB) (sf_i).toB) (sf_n).toB (nomark _))).toE (ss_one (ss_ret (sf_n).toE)) ss_nil)
  (ss_cons (ss_tup ((sf_tup (sfs_cons (sf_tup sfs_nil) (sfs_cons sf_i (sfs_cons sf_i sfs_nil))))).toE (sg_tup rfl (sgs_cons (sg_name (i := 4) nd) (sgs_cons (sg_name (i := 5) nd) (sgs_cons (sg_name (i := 6) nd) sgs_nil)))))
  (ss_cons (ss_for hp rfl (si_rng3 M.m_range (ses_cons (((sb_ix (sb_ix (sb_v 3) (sf_i).toB) (sf_i).toB)).toF).toE (ses_cons (sf_i).toE (ses_cons ((sf_u (fun p => pe_un un_neg p) (fun _ _ _ h => h) ok_neg (sf_i).toB)).toE ses_nil)))) (sg_name (i := 7) nd) (ss_one (ss_for hp rfl (si_rng1 M.m_range (ses_cons (((sb_ix (sb_v 0) (sf_i).toB)).toF).toE ses_nil)) (sg_name (i := 8) nd) (ss_cons (ss_set 9 nd ((sf_tup (sfs_cons ((sb_ix (sb_ix (sb_ix (sb_v 0) (sf_i).toB) (sb_v 5)) (sb_v 8))).toF (sfs_cons ((sb_ix (sb_ix (sb_ix (sb_v 1) (sf_i).toB) (sb_v 6)) (sb_v 8))).toF sfs_nil)))).toE)
  (ss_one (ss_if ((sp_cmp (op_eqD hr.units) ok_eq (sb_ix (sb_ix (sb_v 3) (sb_ix (sb_v 9) (sf_i).toB)) (sb_ix (sb_v 9) (sf_i).toB)) ((sf_op (fun p q => pe_op op_sub p q) ok_sub (sb_v 7) (sf_i).toB)).toB (nomark _))).toE (ss_cons (ss_par3 4 5 6 rfl nd (ses_cons ((sf_op (fun p q => pe_op opAdd p q) ok_add (sb_v 4) ((sf_tup (sfs_cons ((sb_v 8)).toF sfs_nil))).toB)).toE (ses_cons (((sb_ix (sb_v 9) (sf_i).toB)).toF).toE (ses_cons (((sb_ix (sb_v 9) (sf_i).toB)).toF).toE ses_nil))))
  (ss_one ss_break)) ss_nil))))))
  (ss_one (ss_ret (((sb_v 4)).toF).toE))))))⟩
abbrev s_law_rare : Stmt := topS 10
abbrev N_law_rare : List Str := ["d", "many"]
abbrev ps_law_rare : List Str := ["d", "many"]
theorem sc_law_rare : FnScope N_law_rare ps_law_rare (defScope s_law_rare) := ⟨rfl, rfl, rfl, by decide +kernel, rfl, by decide +kernel, by decide +kernel⟩
def pin_law_rare : Pin := fun j => ([0] : List Nat).contains j
abbrev b_law_rare : VS.Env → SR := (sRet (e2 oEq (eCall f_law_draw (aLend 0 (aOwn (eF (bP (bV 1))) aNil))) (eF (b2 oDiv (bV 1) (bC (.int 2))))))
def f_law_rare : List D → FR := mkF 2 2 pin_law_rare b_law_rare
theorem ok_law_rare (M : Mg mg fa) (C_law_draw : Cb P w K mg base fa 1 "_law_draw" 2 f_law_draw) (F : Fd K mg "_law_rare" "_law_rare" s_law_rare ps_law_rare) : Cb P w K mg base fa 2 "_law_rare" 2 f_law_rare := by
  refine cb_mk2 (pin := pin_law_rare) (b := b_law_rare) F sc_law_rare rfl rfl rfl ?_
  intro f cdv A outer s H E hr
  have nd := sc_law_rare.nd
  have hp : PassesOwn (model P w) (cxOf (L2.CX P w) P w K mg base N_law_rare "_law_rare" (defScope s_law_rare) f cdv A outer s H E).A (cxOf (L2.CX P w) P w K mg base N_law_rare "_law_rare" (defScope s_law_rare) f cdv A outer s H E).env (cxOf (L2.CX P w) P w K mg base N_law_rare "_law_rare" (defScope s_law_rare) f cdv A outer s H E).xe := passes_of rfl
  have hx : ∀ σ, PassesAt (L2.CX P w) (cxOf (L2.CX P w) P w K mg base N_law_rare "_law_rare" (defScope s_law_rare) f cdv A outer s H E) σ (WE (WE0 E) σ) := fun σ => passAt (takes_of rfl rfl rfl rfl) σ
  exact ⟨_, (ss_one (ss_ret (se_op (fun p q => pe_cmpR (op_eqD hr.units) p q (nomark _)) ok_eq (se_callC C_law_draw hr hx (sas_lend 0 (pv 0) (sas_own (((sb_v 1)).toF).toE sas_nil))) ((sf_op (fun p q => pe_op (opOr op_fdiv op_fdivW) p q) ok_div (sb_v 1) (sf_i).toB)).toE)))⟩
abbrev s_law_met : Stmt := topS 23
abbrev N_law_met : List Str := ["rows", "found", "turn", "after"]
abbrev ps_law_met : List Str := ["rows"]
theorem sc_law_met : FnScope N_law_met ps_law_met (defScope s_law_met) := ⟨rfl, rfl, rfl, by decide +kernel, rfl, by decide +kernel, by decide +kernel⟩
def pin_law_met : Pin := fun j => ([0] : List Nat).contains j
abbrev b_law_met_1 : VS.Env → SR := (sIf (pT (pB (b2 (oIn true) (bV 3) (bV 1)))) (sDrop (eApp 1 (eF (bP (bV 3))))) sNil)
abbrev b_law_met_2 : VS.Env → SR := (sSeq (sIf (pT (pB (b2 oGe (bV 2) (b1 oLen (bV 1))))) (sRet (eMov 1)) sNil)
  (sFor (iS (eF (bP (b2 oIx (bV 0) (b2 oIx (bV 1) (bV 2)))))) (bName pin_law_met 3) b_law_met_1))
abbrev b_law_met : VS.Env → SR := (sSeq (sAsg (eF (fLst (fCons (bC (.int 0)) fNil))) (bName pin_law_met 1))
  (sSeq (sFor (iR1 (eCons (eF (bC (.int 40))) eNil)) (bName pin_law_met 2) b_law_met_2)
  (sRet (eMov 1))))
def f_law_met : List D → FR := mkF 1 4 pin_law_met b_law_met
theorem ok_law_met (M : Mg mg fa) (F : Fd K mg "_law_met" "_law_met" s_law_met ps_law_met) : Cb P w K mg base fa 1 "_law_met" 1 f_law_met := by
  refine cb_mk2 (pin := pin_law_met) (b := b_law_met) F sc_law_met rfl rfl rfl ?_
  intro f cdv A outer s H E hr
  have nd := sc_law_met.nd
  have hp : PassesOwn (model P w) (cxOf (L2.CX P w) P w K mg base N_law_met "_law_met" (defScope s_law_met) f cdv A outer s H E).A (cxOf (L2.CX P w) P w K mg base N_law_met "_law_met" (defScope s_law_met) f cdv A outer s H E).env (cxOf (L2.CX P w) P w K mg base N_law_met "_law_met" (defScope s_law_met) f cdv A outer s H E).xe := passes_of rfl
  have hx : ∀ σ, PassesAt (L2.CX P w) (cxOf (L2.CX P w) P w K mg base N_law_met "_law_met" (defScope s_law_met) f cdv A outer s H E) σ (WE (WE0 E) σ) := fun σ => passAt (takes_of rfl rfl rfl rfl) σ
  exact ⟨_, (ss_cons (ss_set 1 nd ((sf_lst (sfs_cons sf_i sfs_nil))).toE)
  (ss_cons (ss_for hp rfl (si_rng1 M.m_range (ses_cons (sf_i).toE ses_nil)) (sg_name (i := 2) nd) (ss_cons (ss_if ((sp_cmp op_ge ok_ge (sb_v 2) ((sf_b1 call_len ok_len PySem.boot_len M.m_len (sb_v 1))).toB (nomark _))).toE (ss_one (ss_ret (se_mov 1))) ss_nil)
  (ss_one (ss_for hp rfl (si_seq (((sb_ix (sb_v 0) (sb_ix (sb_v 1) (sb_v 2)))).toF).toE) (sg_name (i := 3) nd) (ss_one (ss_if ((sp_cmp op_notIn_seq (ok_in (neg := true)) (sb_v 3) (sb_v 1) (by rfl))).toE (ss_one (ss_drop (se_app 1 (pv 1) (((sb_v 3)).toF).toE (fun po pe => pe_bm PySem.F.plainAttrs_list PySem.F.slot_list_append PySem.F.type_list_append mt_append po (pa_cons pe pa_nil))))) ss_nil))))))
  (ss_one (ss_ret (se_mov 1)))))⟩
abbrev s_law_shuffled : Stmt := topS 11
abbrev N_law_shuffled : List Str := ["d", "row", "left", "found", "k"]
abbrev ps_law_shuffled : List Str := ["d", "row"]
theorem sc_law_shuffled : FnScope N_law_shuffled ps_law_shuffled (defScope s_law_shuffled) := ⟨rfl, rfl, rfl, by decide +kernel, rfl, by decide +kernel, by decide +kernel⟩
def pin_law_shuffled : Pin := fun j => ([0, 1] : List Nat).contains j
abbrev b_law_shuffled_1 : VS.Env → SR := (sDrop (eApp 3 (eMeth 2 mPopAt (eCall f_law_draw (aLend 0 (aOwn (eF (b1 oLen (bV 2))) aNil))))))
abbrev b_law_shuffled : VS.Env → SR := (sSeq (sAsg (eF (b1 oList (bV 1))) (bName pin_law_shuffled 2))
  (sSeq (sAsg (eF (fLst fNil)) (bName pin_law_shuffled 3))
  (sSeq (sFor (iR1 (eCons (eF (b1 oLen (bV 2))) eNil)) (bName pin_law_shuffled 4) b_law_shuffled_1)
  (sRet (eMov 3)))))
def f_law_shuffled : List D → FR := mkF 2 5 pin_law_shuffled b_law_shuffled
theorem ok_law_shuffled (M : Mg mg fa) (C_law_draw : Cb P w K mg base fa 1 "_law_draw" 2 f_law_draw) (F : Fd K mg "_law_shuffled" "_law_shuffled" s_law_shuffled ps_law_shuffled) : Cb P w K mg base fa 2 "_law_shuffled" 2 f_law_shuffled := by
  refine cb_mk2 (pin := pin_law_shuffled) (b := b_law_shuffled) F sc_law_shuffled rfl rfl rfl ?_
  intro f cdv A outer s H E hr
  have nd := sc_law_shuffled.nd
  have hp : PassesOwn (model P w) (cxOf (L2.CX P w) P w K mg base N_law_shuffled "_law_shuffled" (defScope s_law_shuffled) f cdv A outer s H E).A (cxOf (L2.CX P w) P w K mg base N_law_shuffled "_law_shuffled" (defScope s_law_shuffled) f cdv A outer s H E).env (cxOf (L2.CX P w) P w K mg base N_law_shuffled "_law_shuffled" (defScope s_law_shuffled) f cdv A outer s H E).xe := passes_of rfl
  have hx : ∀ σ, PassesAt (L2.CX P w) (cxOf (L2.CX P w) P w K mg base N_law_shuffled "_law_shuffled" (defScope s_law_shuffled) f cdv A outer s H E) σ (WE (WE0 E) σ) := fun σ => passAt (takes_of rfl rfl rfl rfl) σ
  exact ⟨_, (ss_cons (ss_set 2 nd ((sf_t1 call_list_of ok_list (by decide +kernel) M.m_list (sb_v 1))).toE)
  (ss_cons (ss_set 3 nd ((sf_lst sfs_nil)).toE)
  (ss_cons (ss_for hp rfl (si_rng1 M.m_range (ses_cons ((sf_b1 call_len ok_len PySem.boot_len M.m_len (sb_v 2))).toE ses_nil)) (sg_name (i := 4) nd) (ss_one (ss_drop (se_app 3 (pv 3) (se_meth 2 ok_popAt pu_popAt (pv 2) (se_callC C_law_draw hr hx (sas_lend 0 (pv 0) (sas_own ((sf_b1 call_len ok_len PySem.boot_len M.m_len (sb_v 2))).toE sas_nil))) (fun po pe => pe_bm PySem.F.plainAttrs_list PySem.F.slot_list_pop PySem.F.type_list_pop mt_popAt po (pa_cons pe pa_nil))) (fun po pe => pe_bm PySem.F.plainAttrs_list PySem.F.slot_list_append PySem.F.type_list_append mt_append po (pa_cons pe pa_nil))))))
  (ss_one (ss_ret (se_mov 3))))))⟩
abbrev s_law_twins : Stmt := topS 24
abbrev N_law_twins : List Str := ["d", "trial", "many", "order", "places", "rows", "twin", "names", "met", "state", "after"]
abbrev ps_law_twins : List Str := ["d", "trial"]
theorem sc_law_twins : FnScope N_law_twins ps_law_twins (defScope s_law_twins) := ⟨rfl, rfl, rfl, by decide +kernel, rfl, by decide +kernel, by decide +kernel⟩
def pin_law_twins : Pin := fun j => ([0] : List Nat).contains j
abbrev b_law_twins_1 : VS.Env → Res (D × VS.Env) := (eF (b2 oIndex (bV 3) (bV 6)))
abbrev b_law_twins_2 : VS.Env → Res (D × VS.Env) := (eIxV 4 (e2 oAdd (eF (b2 oMul (bC (.int 2)) (bV 10))) (eCall f_law_draw (aLend 0 (aOwn (eF (bC (.int 2))) aNil)))))
abbrev b_law_twins_3 : VS.Env → SR := (sDrop (eApp 5 (e1 oTupleP (eLc (iS (eF (bP (b2 oIx (b2 oIx (bV 1) (bC (.int 2))) (b2 oDiv (bV 6) (bC (.int 2))))))) (bName (pinOf [10]) 10) tYesE b_law_twins_2 [10]))))
abbrev b_law_twins_4 : VS.Env → Res (D × VS.Env) := (eF (bP (b2 oIx (b2 oIx (bV 1) (bC (.int 3))) (b2 oDiv (bV 6) (bC (.int 2))))))
abbrev b_law_twins_5 : VS.Env → SR := (sIf (pT (pB (b2 (oIn true) (bV 9) (bV 8)))) (sSetL 7 lVar (bV 9) (eCall f_law_named (aLend 0 (aOwn (eF (bC (.int 5))) aNil)))) sNil)
abbrev b_law_twins : VS.Env → SR := (sSeq (sAsg (eF (b1 oLen (b2 oIx (bV 1) (bC (.int 3))))) (bName pin_law_twins 2))
  (sSeq (sAsg (e2 oAdd (eF (fLst (fCons (bC (.int 0)) fNil))) (eCall f_law_shuffled (aLend 0 (aOwn (eF (fLR2 (bC (.int 1)) (b2 oMul (bC (.int 2)) (bV 2)))) aNil)))) (bName pin_law_twins 3))
  (sSeq (sAsg (eLc (iR1 (eCons (eF (b2 oMul (bC (.int 2)) (bV 2))) eNil)) (bName (pinOf [6]) 6) tYesE b_law_twins_1 [6]) (bName pin_law_twins 4))
  (sSeq (sAsg (eF (fLst fNil)) (bName pin_law_twins 5))
  (sSeq (sForP 3 (iPl 3 lVar) (bName (pinAdd pin_law_twins 3) 6) b_law_twins_3)
  (sSeq (sAsg (eLcP 3 (iPl 3 lVar) (bName (pinOf [6]) 6) tYesE b_law_twins_4 [6]) (bName pin_law_twins 7))
  (sSeq (sAsg (eCall f_law_met (aLend 5 aNil)) (bName pin_law_twins 8))
  (sSeq (sFor (iR1 (eCons (eF (b1 oLen (bV 7))) eNil)) (bName pin_law_twins 9) b_law_twins_5)
  (sRet (eF (fTup (fCons (bC (.str "trial")) (fCons (bP (b2 oIx (bV 1) (bC (.int 1)))) (fCons (b1 oTupleP (bV 5)) (fCons (b1 oTupleP (bV 7)) fNil)))))))))))))))
def f_law_twins : List D → FR := mkF 2 11 pin_law_twins b_law_twins
theorem ok_law_twins (M : Mg mg fa) (C_law_shuffled : Cb P w K mg base fa 2 "_law_shuffled" 2 f_law_shuffled) (C_law_draw : Cb P w K mg base fa 1 "_law_draw" 2 f_law_draw) (C_law_met : Cb P w K mg base fa 1 "_law_met" 1 f_law_met) (C_law_named : Cb P w K mg base fa 2 "_law_named" 2 f_law_named) (F : Fd K mg "_law_twins" "_law_twins" s_law_twins ps_law_twins) : Cb P w K mg base fa 3 "_law_twins" 2 f_law_twins := by
  refine cb_mk2 (pin := pin_law_twins) (b := b_law_twins) F sc_law_twins rfl rfl rfl ?_
  intro f cdv A outer s H E hr
  have nd := sc_law_twins.nd
  have hp : PassesOwn (model P w) (cxOf (L2.CX P w) P w K mg base N_law_twins "_law_twins" (defScope s_law_twins) f cdv A outer s H E).A (cxOf (L2.CX P w) P w K mg base N_law_twins "_law_twins" (defScope s_law_twins) f cdv A outer s H E).env (cxOf (L2.CX P w) P w K mg base N_law_twins "_law_twins" (defScope s_law_twins) f cdv A outer s H E).xe := passes_of rfl
  have hx : ∀ σ, PassesAt (L2.CX P w) (cxOf (L2.CX P w) P w K mg base N_law_twins "_law_twins" (defScope s_law_twins) f cdv A outer s H E) σ (WE (WE0 E) σ) := fun σ => passAt (takes_of rfl rfl rfl rfl) σ
  exact ⟨_, (ss_cons (ss_set 2 nd ((sf_b1 call_len ok_len PySem.boot_len M.m_len (sb_ix (sb_v 1) (sf_i).toB))).toE)
  (ss_cons (ss_set 3 nd (se_op (fun p q => pe_op opAdd p q) ok_add ((sf_lst (sfs_cons sf_i sfs_nil))).toE (se_callC C_law_shuffled hr hx (sas_lend 0 (pv 0) (sas_own ((sf_lr2 rfl M.m_list M.m_range (sf_i).toB ((sf_op (fun p q => pe_op (opOr op_mul op_mulW) p q) ok_mul (sf_i).toB (sb_v 2))).toB)).toE sas_nil)))))
  (ss_cons (ss_set 4 nd (se_lc (own := [("twin", 6)]) rfl nd (blkOk_by (by dsimp only [cxOf, Cx.blk, compEnvC, PyProof.Rows.envOfC, relabel, PySem.Env.kindOf]; first | decide +kernel | rfl)) (si_rng1 M.m_range (ses_cons ((sf_op (fun p q => pe_op (opOr op_mul op_mulW) p q) ok_mul (sf_i).toB (sb_v 2))).toE ses_nil)) (fun _ _ _ _ _ => SG.te ((sg_name (i := 6) nd)) (by first | rfl | dsimp only [Cx.blk, cn] | (dsimp only [Cx.blk, cn]; rfl))) (fun _ _ _ _ _ => STs.te (sts_nil) (by first | rfl | dsimp only [Cx.blk, cn] | (dsimp only [Cx.blk, cn]; rfl))) (fun _ _ _ _ _ => SE.te (((sf_index (sb_v 3) (sb_v 6) (fun po pe => pe_bm PySem.F.plainAttrs_list PySem.F.slot_list_index PySem.F.type_list_index mt_index po (pa_cons pe pa_nil)))).toE) (by first | rfl | dsimp only [Cx.blk, cn] | (dsimp only [Cx.blk, cn]; rfl)))))
  (ss_cons (ss_set 5 nd ((sf_lst sfs_nil)).toE)
  (ss_cons (ss_forP (r := 3) hp rfl (si_pl (sl_var 3)) (sg_name (i := 6) nd) (ss_one (ss_drop (se_app 5 (pv 5) (se_t1 call_tuple_of ok_tupleP (by decide +kernel) M.m_tuple (se_lc (own := [("after", 10)]) rfl nd (blkOk_by (by dsimp only [cxOf, Cx.blk, compEnvC, PyProof.Rows.envOfC, relabel, PySem.Env.kindOf]; first | decide +kernel | rfl)) (si_seq (((sb_ix (sb_ix (sb_v 1) (sf_i).toB) ((sf_op (fun p q => pe_op (opOr op_fdiv op_fdivW) p q) ok_div (sb_v 6) (sf_i).toB)).toB)).toF).toE) (fun _ _ _ _ _ => SG.te ((sg_name (i := 10) nd)) (by first | rfl | dsimp only [Cx.blk, cn] | (dsimp only [Cx.blk, cn]; rfl))) (fun _ _ _ _ _ => STs.te (sts_nil) (by first | rfl | dsimp only [Cx.blk, cn] | (dsimp only [Cx.blk, cn]; rfl))) (fun _ _ _ _ _ => SE.te ((se_ixV 4 (se_op (fun p q => pe_op opAdd p q) ok_add ((sf_op (fun p q => pe_op (opOr op_mul op_mulW) p q) ok_mul (sf_i).toB (sb_v 10))).toE (se_callC C_law_draw hr passW0 (sas_lend 0 (pv 0) (sas_own (sf_i).toE sas_nil)))))) (by first | rfl | dsimp only [Cx.blk, cn] | (dsimp only [Cx.blk, cn]; rfl))))) (fun po pe => pe_bm PySem.F.plainAttrs_list PySem.F.slot_list_append PySem.F.type_list_append mt_append po (pa_cons pe pa_nil))))))
  (ss_cons (ss_setLcP 7 (r := 3) (own := [("twin", 6)]) rfl nd (blkOk_by (by dsimp only [cxOf, Cx.blk, compEnvC, PyProof.Rows.envOfC, relabel, PySem.Env.kindOf]; first | decide +kernel | rfl)) (si_pl (sl_var 3)) (fun _ _ _ _ _ => SG.te ((sg_name (i := 6) nd)) (by first | rfl | dsimp only [Cx.blk, cn] | (dsimp only [Cx.blk, cn]; rfl))) (fun _ _ _ _ _ => STs.te (sts_nil) (by first | rfl | dsimp only [Cx.blk, cn] | (dsimp only [Cx.blk, cn]; rfl))) (fun _ _ _ _ _ => SE.te ((((sb_ix (sb_ix (sb_v 1) (sf_i).toB) ((sf_op (fun p q => pe_op (opOr op_fdiv op_fdivW) p q) ok_div (sb_v 6) (sf_i).toB)).toB)).toF).toE) (by first | rfl | dsimp only [Cx.blk, cn] | (dsimp only [Cx.blk, cn]; rfl))))
  (ss_cons (ss_set 8 nd (se_callC C_law_met hr hx (sas_lend 5 (pv 5) sas_nil)))
  (ss_cons (ss_for hp rfl (si_rng1 M.m_range (ses_cons ((sf_b1 call_len ok_len PySem.boot_len M.m_len (sb_v 7))).toE ses_nil)) (sg_name (i := 9) nd) (ss_one (ss_if ((sp_cmp op_notIn_seq (ok_in (neg := true)) (sb_v 9) (sb_v 8) (by rfl))).toE (ss_one (ss_setL (sl_var 7) (sb_v 9) (se_callC C_law_named hr hx (sas_lend 0 (pv 0) (sas_own (sf_i).toE sas_nil))) (fun pe po pi => ps_asg pe (pg_sub po pi set_list)))) ss_nil)))
  (ss_one (ss_ret ((sf_tup (sfs_cons sf_s (sfs_cons ((sb_ix (sb_v 1) (sf_i).toB)).toF (sfs_cons (sf_t1 call_tuple_of ok_tupleP (by decide +kernel) M.m_tuple (sb_v 5)) (sfs_cons (sf_t1 call_tuple_of ok_tupleP (by decide +kernel) M.m_tuple (sb_v 7)) sfs_nil)))))).toE))))))))))⟩
abbrev s_law : Stmt := topS 30
abbrev N_law : List Str := ["script", "d", "kind", "letters", "one", "other", "dues"]
abbrev ps_law : List Str := ["script"]
theorem sc_law : FnScope N_law ps_law (defScope s_law) := ⟨rfl, rfl, rfl, by decide +kernel, rfl, by decide +kernel, by decide +kernel⟩
def pin_law : Pin := fun j => ([] : List Nat).contains j
abbrev b_law : VS.Env → SR := (sSeq (sAsg (eF (fCall f_law_begin (fCons (bP (bV 0)) fNil))) (bName pin_law 1))
  (sSeq (sAsg (eCall f_law_draw (aLend 1 (aOwn (eF (bC (.int 8))) aNil))) (bName pin_law 2))
  (sSeq (sIf (pT (pB (b2 oEq (bV 2) (bC (.int 4))))) (sRet (eCall f_law_parts_late (aLend 1 aNil))) sNil)
  (sSeq (sIf (pT (pB (b2 oEq (bV 2) (bC (.int 6))))) (sRet (eCall f_law_turns_late (aLend 1 aNil))) sNil)
  (sSeq (sAsg (e2 oAdd (eF (bC (.int 1))) (eCall f_law_draw (aLend 1 (aOwn (eF (bC (.int 3))) aNil)))) (bName pin_law 3))
  (sSeq (sAsg (eCall f_law_few_trial (aLend 1 (aOwn (eF (bP (bV 3))) (aOwn (eIf (pE (eCall f_law_rare (aLend 1 (aOwn (eF (bC (.int 21))) aNil)))) (eF (bC (.int 40))) (e2 oAdd (eF (bC (.int 1))) (eCall f_law_draw (aLend 1 (aOwn (eF (bC (.int 5))) aNil))))) aNil)))) (bName pin_law 4))
  (sSeq (sIf (pT (pB (b2 oLt (bV 2) (bC (.int 3))))) (sAsg (eCall f_law_few_trial (aLend 1 (aOwn (eF (bP (bV 3))) (aOwn (eIf (pT (pB (b2 oEq (b1 oLen (b2 oIx (bV 4) (bC (.int 3)))) (bC (.int 40))))) (eF (bC (.int 40))) (e2 oAdd (eF (bC (.int 1))) (eCall f_law_draw (aLend 1 (aOwn (eF (bC (.int 5))) aNil))))) aNil)))) (bName pin_law 5)) (sAsg (eIf (pT (pB (b2 oEq (b1 oLen (b2 oIx (bV 4) (bC (.int 3)))) (bC (.int 40))))) (eF (bP (bV 4))) (eCall f_law_twins (aLend 1 (aOwn (eF (bP (bV 4))) aNil)))) (bName pin_law 5)))
  (sSeq (sIf (pT (pB (b2 oEq (bV 2) (bC (.int 5))))) (sAsg (eCall f_law_renamed (aLend 1 (aOwn (eF (bP (bV 5))) (aOwn (eF (bC (.bl false))) aNil)))) (bName pin_law 5)) (sIf (pT (pB (b2 oEq (bV 2) (bC (.int 7))))) (sAsg (eCall f_law_renamed (aLend 1 (aOwn (eCall f_law_renamed (aLend 1 (aOwn (eF (bP (bV 5))) (aOwn (eF (bC (.bl true))) aNil)))) (aOwn (eF (bC (.bl true))) aNil)))) (bName pin_law 5)) sNil))
  (sSeq (sAsg (eF (fTup (fCons (fCall f_law_due (fCons (bP (bV 4)) (fCons (bP (bV 5)) (fCons (bC (.bl false)) fNil)))) (fCons (fCall f_law_due (fCons (bP (bV 4)) (fCons (bP (bV 5)) (fCons (bC (.bl true)) fNil)))) (fCons (fCall f_law_due (fCons (bP (bV 5)) (fCons (bP (bV 4)) (fCons (bC (.bl true)) fNil)))) fNil))))) (bName pin_law 6))
  (sRet (eF (fAnd (fCall f_law_answers (fCons (bP (bV 4)) (fCons (bP (bV 5)) (fCons (bP (bV 6)) fNil)))) (fCall f_law_answers (fCons (bP (bV 4)) (fCons (bP (bV 4)) (fCons (fTup (fCons (bC .non) (fCons (bC .non) (fCons (bC .non) fNil)))) fNil))))))))))))))))
def f_law : List D → FR := mkF 1 7 pin_law b_law
theorem ok_law {f : Addr} {fd : FuncData} (M : Mg mg fa) (C_law_begin : Cb P w K mg base fa 1 "_law_begin" 1 f_law_begin) (C_law_draw : Cb P w K mg base fa 1 "_law_draw" 2 f_law_draw) (C_law_parts_late : Cb P w K mg base fa 6 "_law_parts_late" 1 f_law_parts_late) (C_law_turns_late : Cb P w K mg base fa 6 "_law_turns_late" 1 f_law_turns_late) (C_law_few_trial : Cb P w K mg base fa 4 "_law_few_trial" 3 f_law_few_trial) (C_law_rare : Cb P w K mg base fa 2 "_law_rare" 2 f_law_rare) (C_law_twins : Cb P w K mg base fa 3 "_law_twins" 2 f_law_twins) (C_law_renamed : Cb P w K mg base fa 2 "_law_renamed" 3 f_law_renamed) (C_law_due : Cb P w K mg base fa 3 "_law_due" 3 f_law_due) (C_law_answers : Cb P w K mg base fa 5 "_law_answers" 3 f_law_answers) (F : Fun K "law" "law" s_law f fd) : FnOk P w K mg base (L2.CX P w) 7 f fd ps_law (spV ⟨K, fa⟩ 1 f_law) := by
  refine fn_mk2 (pin := pin_law) (b := b_law) F sc_law rfl rfl rfl ?_
  intro cdv A outer s H E hr
  have nd := sc_law.nd
  have hp : PassesOwn (model P w) (cxOf (L2.CX P w) P w K mg base N_law "law" (defScope s_law) f cdv A outer s H E).A (cxOf (L2.CX P w) P w K mg base N_law "law" (defScope s_law) f cdv A outer s H E).env (cxOf (L2.CX P w) P w K mg base N_law "law" (defScope s_law) f cdv A outer s H E).xe := passes_of rfl
  have hx : ∀ σ, PassesAt (L2.CX P w) (cxOf (L2.CX P w) P w K mg base N_law "law" (defScope s_law) f cdv A outer s H E) σ (WE (WE0 E) σ) := fun σ => passAt (takes_of rfl rfl rfl rfl) σ
  exact ⟨_, (ss_cons (ss_set 1 nd ((sf_callC C_law_begin hr (sfs_cons ((sb_v 0)).toF sfs_nil))).toE)
  (ss_cons (ss_set 2 nd (se_callC C_law_draw hr hx (sas_lend 1 (pv 1) (sas_own (sf_i).toE sas_nil))))
  (ss_cons (ss_if ((sp_cmp (op_eqD hr.units) ok_eq (sb_v 2) (sf_i).toB (nomark _))).toE (ss_one (ss_ret (se_callC C_law_parts_late hr hx (sas_lend 1 (pv 1) sas_nil)))) ss_nil)
  (ss_cons (ss_if ((sp_cmp (op_eqD hr.units) ok_eq (sb_v 2) (sf_i).toB (nomark _))).toE (ss_one (ss_ret (se_callC C_law_turns_late hr hx (sas_lend 1 (pv 1) sas_nil)))) ss_nil)
  (ss_cons (ss_set 3 nd (se_op (fun p q => pe_op opAdd p q) ok_add (sf_i).toE (se_callC C_law_draw hr hx (sas_lend 1 (pv 1) (sas_own (sf_i).toE sas_nil)))))
  (ss_cons (ss_set 4 nd (se_callC C_law_few_trial hr hx (sas_lend 1 (pv 1) (sas_own (((sb_v 3)).toF).toE (sas_own (se_if (spe_val (se_callC C_law_rare hr hx (sas_lend 1 (pv 1) (sas_own (sf_i).toE sas_nil))) (fun p => pt_val p)) (sf_i).toE (se_op (fun p q => pe_op opAdd p q) ok_add (sf_i).toE (se_callC C_law_draw hr hx (sas_lend 1 (pv 1) (sas_own (sf_i).toE sas_nil))))) sas_nil)))))
  (ss_cons (ss_if ((sp_cmp op_lt ok_lt (sb_v 2) (sf_i).toB (nomark _))).toE (ss_one (ss_set 5 nd (se_callC C_law_few_trial hr hx (sas_lend 1 (pv 1) (sas_own (((sb_v 3)).toF).toE (sas_own (se_if ((sp_cmp (op_eqD hr.units) ok_eq ((sf_b1 call_len ok_len PySem.boot_len M.m_len (sb_ix (sb_v 4) (sf_i).toB))).toB (sf_i).toB (nomark _))).toE (sf_i).toE (se_op (fun p q => pe_op opAdd p q) ok_add (sf_i).toE (se_callC C_law_draw hr hx (sas_lend 1 (pv 1) (sas_own (sf_i).toE sas_nil))))) sas_nil)))))) (ss_one (ss_set 5 nd (se_if ((sp_cmp (op_eqD hr.units) ok_eq ((sf_b1 call_len ok_len PySem.boot_len M.m_len (sb_ix (sb_v 4) (sf_i).toB))).toB (sf_i).toB (nomark _))).toE (((sb_v 4)).toF).toE (se_callC C_law_twins hr hx (sas_lend 1 (pv 1) (sas_own (((sb_v 4)).toF).toE sas_nil)))))))
  (ss_cons (ss_if ((sp_cmp (op_eqD hr.units) ok_eq (sb_v 2) (sf_i).toB (nomark _))).toE (ss_one (ss_set 5 nd (se_callC C_law_renamed hr hx (sas_lend 1 (pv 1) (sas_own (((sb_v 5)).toF).toE (sas_own (sf_b).toE sas_nil)))))) (ss_one (ss_if ((sp_cmp (op_eqD hr.units) ok_eq (sb_v 2) (sf_i).toB (nomark _))).toE (ss_one (ss_set 5 nd (se_callC C_law_renamed hr hx (sas_lend 1 (pv 1) (sas_own (se_callC C_law_renamed hr hx (sas_lend 1 (pv 1) (sas_own (((sb_v 5)).toF).toE (sas_own (sf_b).toE sas_nil)))) (sas_own (sf_b).toE sas_nil)))))) ss_nil)))
  (ss_cons (ss_set 6 nd ((sf_tup (sfs_cons (sf_callC C_law_due hr (sfs_cons ((sb_v 4)).toF (sfs_cons ((sb_v 5)).toF (sfs_cons sf_b sfs_nil)))) (sfs_cons (sf_callC C_law_due hr (sfs_cons ((sb_v 4)).toF (sfs_cons ((sb_v 5)).toF (sfs_cons sf_b sfs_nil)))) (sfs_cons (sf_callC C_law_due hr (sfs_cons ((sb_v 5)).toF (sfs_cons ((sb_v 4)).toF (sfs_cons sf_b sfs_nil)))) sfs_nil))))).toE)
  (ss_one (ss_ret ((sf_and (sf_callC C_law_answers hr (sfs_cons ((sb_v 4)).toF (sfs_cons ((sb_v 5)).toF (sfs_cons ((sb_v 6)).toF sfs_nil)))) (sf_one (sf_callC C_law_answers hr (sfs_cons ((sb_v 4)).toF (sfs_cons ((sb_v 4)).toF (sfs_cons (sf_tup (sfs_cons sf_n (sfs_cons sf_n (sfs_cons sf_n sfs_nil)))) sfs_nil))))))).toE)))))))))))⟩
end
theorem all_ok {P : Program} {w : World} {K : PySem.W.Frag} {mg : Str → Option Value} {base : Heap} {fa : Nat → Addr} {f : Addr} {fd : FuncData} (M : Mg mg fa)
    (F_law_begin : Fd K mg "_law_begin" "_law_begin" s_law_begin ps_law_begin)
    (F_law_draw : Fd K mg "_law_draw" "_law_draw" s_law_draw ps_law_draw)
    (F_law_rows_of_states : Fd K mg "_law_rows_of_states" "_law_rows_of_states" s_law_rows_of_states ps_law_rows_of_states)
    (F_law_named : Fd K mg "_law_named" "_law_named" s_law_named ps_law_named)
    (F_law_pick : Fd K mg "_law_pick" "_law_pick" s_law_pick ps_law_pick)
    (F_law_few_names : Fd K mg "_law_few_names" "_law_few_names" s_law_few_names ps_law_few_names)
    (F_law_few_trial : Fd K mg "_law_few_trial" "_law_few_trial" s_law_few_trial ps_law_few_trial)
    (F_law_row : Fd K mg "_law_row" "_law_row" s_law_row ps_law_row)
    (F_law_password : Fd K mg "_law_password" "_law_password" s_law_password ps_law_password)
    (F_law_is_int : Fd K mg "_law_is_int" "_law_is_int" s_law_is_int ps_law_is_int)
    (F_law_same : Fd K mg "_law_same" "_law_same" s_law_same ps_law_same)
    (F_are_unlike : Fd K mg "are_unlike" "are_unlike" s_are_unlike ps_are_unlike)
    (F_lacks_some : Fd K mg "lacks_some" "lacks_some" s_lacks_some ps_lacks_some)
    (F_first_row : Fd K mg "first_row" "first_row" s_first_row ps_first_row)
    (F_parting_row : Fd K mg "parting_row" "parting_row" s_parting_row ps_parting_row)
    (F_never_later : Fd K mg "never_later" "never_later" s_never_later ps_never_later)
    (F_law_answers : Fd K mg "_law_answers" "_law_answers" s_law_answers ps_law_answers)
    (F_law_parts_late : Fd K mg "_law_parts_late" "_law_parts_late" s_law_parts_late ps_law_parts_late)
    (F_law_turns_late : Fd K mg "_law_turns_late" "_law_turns_late" s_law_turns_late ps_law_turns_late)
    (F_law_renamed : Fd K mg "_law_renamed" "_law_renamed" s_law_renamed ps_law_renamed)
    (F_law_into : Fd K mg "_law_into" "_law_into" s_law_into ps_law_into)
    (F_law_is_parted : Fd K mg "_law_is_parted" "_law_is_parted" s_law_is_parted ps_law_is_parted)
    (F_law_lengths : Fd K mg "_law_lengths" "_law_lengths" s_law_lengths ps_law_lengths)
    (F_law_due : Fd K mg "_law_due" "_law_due" s_law_due ps_law_due)
    (F_law_rare : Fd K mg "_law_rare" "_law_rare" s_law_rare ps_law_rare)
    (F_law_met : Fd K mg "_law_met" "_law_met" s_law_met ps_law_met)
    (F_law_shuffled : Fd K mg "_law_shuffled" "_law_shuffled" s_law_shuffled ps_law_shuffled)
    (F_law_twins : Fd K mg "_law_twins" "_law_twins" s_law_twins ps_law_twins)
    (F_law : Fun K "law" "law" s_law f fd) : FnOk P w K mg base (L2.CX P w) 7 f fd ["script"] (spV ⟨K, fa⟩ 1 f_law) := by
  have C_law_begin := ok_law_begin (P := P) (w := w) (base := base) M  F_law_begin
  have C_law_draw := ok_law_draw (P := P) (w := w) (base := base) M  F_law_draw
  have C_law_rows_of_states := ok_law_rows_of_states (P := P) (w := w) (base := base) M C_law_draw F_law_rows_of_states
  have C_law_named := ok_law_named (P := P) (w := w) (base := base) M C_law_draw F_law_named
  have C_law_pick := ok_law_pick (P := P) (w := w) (base := base) M C_law_draw F_law_pick
  have C_law_few_names := ok_law_few_names (P := P) (w := w) (base := base) M C_law_named C_law_pick F_law_few_names
  have C_law_few_trial := ok_law_few_trial (P := P) (w := w) (base := base) M C_law_rows_of_states C_law_few_names F_law_few_trial
  have C_law_row := ok_law_row (P := P) (w := w) (base := base) M C_law_draw F_law_row
  have C_law_password := ok_law_password (P := P) (w := w) (base := base) M C_law_draw F_law_password
  have C_law_is_int := ok_law_is_int (P := P) (w := w) (base := base) M  F_law_is_int
  have C_law_same := ok_law_same (P := P) (w := w) (base := base) M C_law_is_int F_law_same 3
  have C_are_unlike := ok_are_unlike (P := P) (w := w) (base := base) M  F_are_unlike
  have C_lacks_some := ok_lacks_some (P := P) (w := w) (base := base) M  F_lacks_some
  have C_first_row := ok_first_row (P := P) (w := w) (base := base) M C_are_unlike C_lacks_some F_first_row
  have C_parting_row := ok_parting_row (P := P) (w := w) (base := base) M C_first_row F_parting_row
  have C_never_later := ok_never_later (P := P) (w := w) (base := base) M C_first_row F_never_later
  have C_law_answers := ok_law_answers (P := P) (w := w) (base := base) M C_law_same C_parting_row C_never_later F_law_answers
  have C_law_parts_late := ok_law_parts_late (P := P) (w := w) (base := base) M C_law_draw C_law_row C_law_password C_law_answers C_law_pick F_law_parts_late
  have C_law_turns_late := ok_law_turns_late (P := P) (w := w) (base := base) M C_law_draw C_law_pick C_law_answers F_law_turns_late
  have C_law_renamed := ok_law_renamed (P := P) (w := w) (base := base) M C_law_draw F_law_renamed
  have C_law_into := ok_law_into (P := P) (w := w) (base := base) M  F_law_into
  have C_law_is_parted := ok_law_is_parted (P := P) (w := w) (base := base) M  F_law_is_parted
  have C_law_lengths := ok_law_lengths (P := P) (w := w) (base := base) M C_law_is_parted C_law_into F_law_lengths
  have C_law_due := ok_law_due (P := P) (w := w) (base := base) M C_law_lengths F_law_due
  have C_law_rare := ok_law_rare (P := P) (w := w) (base := base) M C_law_draw F_law_rare
  have C_law_met := ok_law_met (P := P) (w := w) (base := base) M  F_law_met
  have C_law_shuffled := ok_law_shuffled (P := P) (w := w) (base := base) M C_law_draw F_law_shuffled
  have C_law_twins := ok_law_twins (P := P) (w := w) (base := base) M C_law_shuffled C_law_draw C_law_met C_law_named F_law_twins
  have C_law := ok_law (P := P) (w := w) (base := base) M C_law_begin C_law_draw C_law_parts_late C_law_turns_late C_law_few_trial C_law_rare C_law_twins C_law_renamed C_law_due C_law_answers F_law
  exact C_law
theorem fd_mk {h : Heap} {K : PySem.W.Frag} {mg : Str → Option Value} {x qual : Str} {st : Stmt} {ps : List Str} {f : Addr} {od an : Option Addr} {sl : Array (Option Value)} {oc kV dc pm cd ct : Value} (X : K.In h) (G : h.Ns mainGlobals mg) (a : PySem.W.nsIn K mainGlobals x = some (some (.ref f)))
    (l : K.lookup f = some ⟨oc, od, .func (PySem.W.fnOf x qual (defArgs st) (defBody st) (defScope st) .none kV dc pm an cd ct), sl⟩) (c : PySem.W.codeIn K cd qual = true) (k : PySem.W.keepIn K (.ref f) = true)
    (hb : ∀ (kV doc pm : Value) (an : Option Addr) (cdv ct : Value) (us : List Value), us.length = ps.length → bindArgs (PySem.W.fnOf x qual (defArgs st) (defBody st) (defScope st) .none kV doc pm an cdv ct) ⟨us, []⟩ = pure (ps.zip us)) : Fd K mg x qual st ps :=
  ⟨f, _, fun_mk (st := st) l c k, (fun_mk (st := st) l c k).binds hb, PySem.W.mg_of X G a⟩
theorem all_mk {l : PySem.W.OpenLaw} {w : World} {K : PySem.W.Frag} {h : Heap} {mg : Str → Option Value} {fL f0 f1 f2 f3 f4 f5 f6 f7 f8 f9 f10 f11 f12 f13 f14 f15 f16 f17 f18 f19 f20 f21 f22 f23 f24 f25 f26 f27 f28 : Addr} {od0 an0 od1 an1 od2 an2 od3 an3 od4 an4 od5 an5 od6 an6 od7 an7 od8 an8 od9 an9 od10 an10 od11 an11 od12 an12 od13 an13 od14 an14 od15 an15 od16 an16 od17 an17 od18 an18 od19 an19 od20 an20 od21 an21 od22 an22 od23 an23 od24 an24 od25 an25 od26 an26 od27 an27 od28 an28 : Option Addr} {sl0 sl1 sl2 sl3 sl4 sl5 sl6 sl7 sl8 sl9 sl10 sl11 sl12 sl13 sl14 sl15 sl16 sl17 sl18 sl19 sl20 sl21 sl22 sl23 sl24 sl25 sl26 sl27 sl28 : Array (Option Value)} {oc0 kV0 dc0 pm0 cd0 ct0 oc1 kV1 dc1 pm1 cd1 ct1 oc2 kV2 dc2 pm2 cd2 ct2 oc3 kV3 dc3 pm3 cd3 ct3 oc4 kV4 dc4 pm4 cd4 ct4 oc5 kV5 dc5 pm5 cd5 ct5 oc6 kV6 dc6 pm6 cd6 ct6 oc7 kV7 dc7 pm7 cd7 ct7 oc8 kV8 dc8 pm8 cd8 ct8 oc9 kV9 dc9 pm9 cd9 ct9 oc10 kV10 dc10 pm10 cd10 ct10 oc11 kV11 dc11 pm11 cd11 ct11 oc12 kV12 dc12 pm12 cd12 ct12 oc13 kV13 dc13 pm13 cd13 ct13 oc14 kV14 dc14 pm14 cd14 ct14 oc15 kV15 dc15 pm15 cd15 ct15 oc16 kV16 dc16 pm16 cd16 ct16 oc17 kV17 dc17 pm17 cd17 ct17 oc18 kV18 dc18 pm18 cd18 ct18 oc19 kV19 dc19 pm19 cd19 ct19 oc20 kV20 dc20 pm20 cd20 ct20 oc21 kV21 dc21 pm21 cd21 ct21 oc22 kV22 dc22 pm22 cd22 ct22 oc23 kV23 dc23 pm23 cd23 ct23 oc24 kV24 dc24 pm24 cd24 ct24 oc25 kV25 dc25 pm25 cd25 ct25 oc26 kV26 dc26 pm26 cd26 ct26 oc27 kV27 dc27 pm27 cd27 ct27 oc28 kV28 dc28 pm28 cd28 ct28 : Value} (X : K.In h) (G : h.Ns mainGlobals mg) (hfa : mg "law" = some (.ref fL))
    (a0 : PySem.W.nsIn K mainGlobals "_law_begin" = some (some (.ref f0))) (l0 : K.lookup f0 = some ⟨oc0, od0, .func (PySem.W.fnOf "_law_begin" "_law_begin" (defArgs s_law_begin) (defBody s_law_begin) (defScope s_law_begin) .none kV0 dc0 pm0 an0 cd0 ct0), sl0⟩) (c0 : PySem.W.codeIn K cd0 "_law_begin" = true) (k0 : PySem.W.keepIn K (.ref f0) = true)
    (a1 : PySem.W.nsIn K mainGlobals "_law_draw" = some (some (.ref f1))) (l1 : K.lookup f1 = some ⟨oc1, od1, .func (PySem.W.fnOf "_law_draw" "_law_draw" (defArgs s_law_draw) (defBody s_law_draw) (defScope s_law_draw) .none kV1 dc1 pm1 an1 cd1 ct1), sl1⟩) (c1 : PySem.W.codeIn K cd1 "_law_draw" = true) (k1 : PySem.W.keepIn K (.ref f1) = true)
    (a2 : PySem.W.nsIn K mainGlobals "_law_rows_of_states" = some (some (.ref f2))) (l2 : K.lookup f2 = some ⟨oc2, od2, .func (PySem.W.fnOf "_law_rows_of_states" "_law_rows_of_states" (defArgs s_law_rows_of_states) (defBody s_law_rows_of_states) (defScope s_law_rows_of_states) .none kV2 dc2 pm2 an2 cd2 ct2), sl2⟩) (c2 : PySem.W.codeIn K cd2 "_law_rows_of_states" = true) (k2 : PySem.W.keepIn K (.ref f2) = true)
    (a3 : PySem.W.nsIn K mainGlobals "_law_named" = some (some (.ref f3))) (l3 : K.lookup f3 = some ⟨oc3, od3, .func (PySem.W.fnOf "_law_named" "_law_named" (defArgs s_law_named) (defBody s_law_named) (defScope s_law_named) .none kV3 dc3 pm3 an3 cd3 ct3), sl3⟩) (c3 : PySem.W.codeIn K cd3 "_law_named" = true) (k3 : PySem.W.keepIn K (.ref f3) = true)
    (a4 : PySem.W.nsIn K mainGlobals "_law_pick" = some (some (.ref f4))) (l4 : K.lookup f4 = some ⟨oc4, od4, .func (PySem.W.fnOf "_law_pick" "_law_pick" (defArgs s_law_pick) (defBody s_law_pick) (defScope s_law_pick) .none kV4 dc4 pm4 an4 cd4 ct4), sl4⟩) (c4 : PySem.W.codeIn K cd4 "_law_pick" = true) (k4 : PySem.W.keepIn K (.ref f4) = true)
    (a5 : PySem.W.nsIn K mainGlobals "_law_few_names" = some (some (.ref f5))) (l5 : K.lookup f5 = some ⟨oc5, od5, .func (PySem.W.fnOf "_law_few_names" "_law_few_names" (defArgs s_law_few_names) (defBody s_law_few_names) (defScope s_law_few_names) .none kV5 dc5 pm5 an5 cd5 ct5), sl5⟩) (c5 : PySem.W.codeIn K cd5 "_law_few_names" = true) (k5 : PySem.W.keepIn K (.ref f5) = true)
    (a6 : PySem.W.nsIn K mainGlobals "_law_few_trial" = some (some (.ref f6))) (l6 : K.lookup f6 = some ⟨oc6, od6, .func (PySem.W.fnOf "_law_few_trial" "_law_few_trial" (defArgs s_law_few_trial) (defBody s_law_few_trial) (defScope s_law_few_trial) .none kV6 dc6 pm6 an6 cd6 ct6), sl6⟩) (c6 : PySem.W.codeIn K cd6 "_law_few_trial" = true) (k6 : PySem.W.keepIn K (.ref f6) = true)
    (a7 : PySem.W.nsIn K mainGlobals "_law_row" = some (some (.ref f7))) (l7 : K.lookup f7 = some ⟨oc7, od7, .func (PySem.W.fnOf "_law_row" "_law_row" (defArgs s_law_row) (defBody s_law_row) (defScope s_law_row) .none kV7 dc7 pm7 an7 cd7 ct7), sl7⟩) (c7 : PySem.W.codeIn K cd7 "_law_row" = true) (k7 : PySem.W.keepIn K (.ref f7) = true)
    (a8 : PySem.W.nsIn K mainGlobals "_law_password" = some (some (.ref f8))) (l8 : K.lookup f8 = some ⟨oc8, od8, .func (PySem.W.fnOf "_law_password" "_law_password" (defArgs s_law_password) (defBody s_law_password) (defScope s_law_password) .none kV8 dc8 pm8 an8 cd8 ct8), sl8⟩) (c8 : PySem.W.codeIn K cd8 "_law_password" = true) (k8 : PySem.W.keepIn K (.ref f8) = true)
    (a9 : PySem.W.nsIn K mainGlobals "_law_is_int" = some (some (.ref f9))) (l9 : K.lookup f9 = some ⟨oc9, od9, .func (PySem.W.fnOf "_law_is_int" "_law_is_int" (defArgs s_law_is_int) (defBody s_law_is_int) (defScope s_law_is_int) .none kV9 dc9 pm9 an9 cd9 ct9), sl9⟩) (c9 : PySem.W.codeIn K cd9 "_law_is_int" = true) (k9 : PySem.W.keepIn K (.ref f9) = true)
    (a10 : PySem.W.nsIn K mainGlobals "_law_same" = some (some (.ref f10))) (l10 : K.lookup f10 = some ⟨oc10, od10, .func (PySem.W.fnOf "_law_same" "_law_same" (defArgs s_law_same) (defBody s_law_same) (defScope s_law_same) .none kV10 dc10 pm10 an10 cd10 ct10), sl10⟩) (c10 : PySem.W.codeIn K cd10 "_law_same" = true) (k10 : PySem.W.keepIn K (.ref f10) = true)
    (a11 : PySem.W.nsIn K mainGlobals "are_unlike" = some (some (.ref f11))) (l11 : K.lookup f11 = some ⟨oc11, od11, .func (PySem.W.fnOf "are_unlike" "are_unlike" (defArgs s_are_unlike) (defBody s_are_unlike) (defScope s_are_unlike) .none kV11 dc11 pm11 an11 cd11 ct11), sl11⟩) (c11 : PySem.W.codeIn K cd11 "are_unlike" = true) (k11 : PySem.W.keepIn K (.ref f11) = true)
    (a12 : PySem.W.nsIn K mainGlobals "lacks_some" = some (some (.ref f12))) (l12 : K.lookup f12 = some ⟨oc12, od12, .func (PySem.W.fnOf "lacks_some" "lacks_some" (defArgs s_lacks_some) (defBody s_lacks_some) (defScope s_lacks_some) .none kV12 dc12 pm12 an12 cd12 ct12), sl12⟩) (c12 : PySem.W.codeIn K cd12 "lacks_some" = true) (k12 : PySem.W.keepIn K (.ref f12) = true)
    (a13 : PySem.W.nsIn K mainGlobals "first_row" = some (some (.ref f13))) (l13 : K.lookup f13 = some ⟨oc13, od13, .func (PySem.W.fnOf "first_row" "first_row" (defArgs s_first_row) (defBody s_first_row) (defScope s_first_row) .none kV13 dc13 pm13 an13 cd13 ct13), sl13⟩) (c13 : PySem.W.codeIn K cd13 "first_row" = true) (k13 : PySem.W.keepIn K (.ref f13) = true)
    (a14 : PySem.W.nsIn K mainGlobals "parting_row" = some (some (.ref f14))) (l14 : K.lookup f14 = some ⟨oc14, od14, .func (PySem.W.fnOf "parting_row" "parting_row" (defArgs s_parting_row) (defBody s_parting_row) (defScope s_parting_row) .none kV14 dc14 pm14 an14 cd14 ct14), sl14⟩) (c14 : PySem.W.codeIn K cd14 "parting_row" = true) (k14 : PySem.W.keepIn K (.ref f14) = true)
    (a15 : PySem.W.nsIn K mainGlobals "never_later" = some (some (.ref f15))) (l15 : K.lookup f15 = some ⟨oc15, od15, .func (PySem.W.fnOf "never_later" "never_later" (defArgs s_never_later) (defBody s_never_later) (defScope s_never_later) .none kV15 dc15 pm15 an15 cd15 ct15), sl15⟩) (c15 : PySem.W.codeIn K cd15 "never_later" = true) (k15 : PySem.W.keepIn K (.ref f15) = true)
    (a16 : PySem.W.nsIn K mainGlobals "_law_answers" = some (some (.ref f16))) (l16 : K.lookup f16 = some ⟨oc16, od16, .func (PySem.W.fnOf "_law_answers" "_law_answers" (defArgs s_law_answers) (defBody s_law_answers) (defScope s_law_answers) .none kV16 dc16 pm16 an16 cd16 ct16), sl16⟩) (c16 : PySem.W.codeIn K cd16 "_law_answers" = true) (k16 : PySem.W.keepIn K (.ref f16) = true)
    (a17 : PySem.W.nsIn K mainGlobals "_law_parts_late" = some (some (.ref f17))) (l17 : K.lookup f17 = some ⟨oc17, od17, .func (PySem.W.fnOf "_law_parts_late" "_law_parts_late" (defArgs s_law_parts_late) (defBody s_law_parts_late) (defScope s_law_parts_late) .none kV17 dc17 pm17 an17 cd17 ct17), sl17⟩) (c17 : PySem.W.codeIn K cd17 "_law_parts_late" = true) (k17 : PySem.W.keepIn K (.ref f17) = true)
    (a18 : PySem.W.nsIn K mainGlobals "_law_turns_late" = some (some (.ref f18))) (l18 : K.lookup f18 = some ⟨oc18, od18, .func (PySem.W.fnOf "_law_turns_late" "_law_turns_late" (defArgs s_law_turns_late) (defBody s_law_turns_late) (defScope s_law_turns_late) .none kV18 dc18 pm18 an18 cd18 ct18), sl18⟩) (c18 : PySem.W.codeIn K cd18 "_law_turns_late" = true) (k18 : PySem.W.keepIn K (.ref f18) = true)
    (a19 : PySem.W.nsIn K mainGlobals "_law_renamed" = some (some (.ref f19))) (l19 : K.lookup f19 = some ⟨oc19, od19, .func (PySem.W.fnOf "_law_renamed" "_law_renamed" (defArgs s_law_renamed) (defBody s_law_renamed) (defScope s_law_renamed) .none kV19 dc19 pm19 an19 cd19 ct19), sl19⟩) (c19 : PySem.W.codeIn K cd19 "_law_renamed" = true) (k19 : PySem.W.keepIn K (.ref f19) = true)
    (a20 : PySem.W.nsIn K mainGlobals "_law_into" = some (some (.ref f20))) (l20 : K.lookup f20 = some ⟨oc20, od20, .func (PySem.W.fnOf "_law_into" "_law_into" (defArgs s_law_into) (defBody s_law_into) (defScope s_law_into) .none kV20 dc20 pm20 an20 cd20 ct20), sl20⟩) (c20 : PySem.W.codeIn K cd20 "_law_into" = true) (k20 : PySem.W.keepIn K (.ref f20) = true)
    (a21 : PySem.W.nsIn K mainGlobals "_law_is_parted" = some (some (.ref f21))) (l21 : K.lookup f21 = some ⟨oc21, od21, .func (PySem.W.fnOf "_law_is_parted" "_law_is_parted" (defArgs s_law_is_parted) (defBody s_law_is_parted) (defScope s_law_is_parted) .none kV21 dc21 pm21 an21 cd21 ct21), sl21⟩) (c21 : PySem.W.codeIn K cd21 "_law_is_parted" = true) (k21 : PySem.W.keepIn K (.ref f21) = true)
    (a22 : PySem.W.nsIn K mainGlobals "_law_lengths" = some (some (.ref f22))) (l22 : K.lookup f22 = some ⟨oc22, od22, .func (PySem.W.fnOf "_law_lengths" "_law_lengths" (defArgs s_law_lengths) (defBody s_law_lengths) (defScope s_law_lengths) .none kV22 dc22 pm22 an22 cd22 ct22), sl22⟩) (c22 : PySem.W.codeIn K cd22 "_law_lengths" = true) (k22 : PySem.W.keepIn K (.ref f22) = true)
    (a23 : PySem.W.nsIn K mainGlobals "_law_due" = some (some (.ref f23))) (l23 : K.lookup f23 = some ⟨oc23, od23, .func (PySem.W.fnOf "_law_due" "_law_due" (defArgs s_law_due) (defBody s_law_due) (defScope s_law_due) .none kV23 dc23 pm23 an23 cd23 ct23), sl23⟩) (c23 : PySem.W.codeIn K cd23 "_law_due" = true) (k23 : PySem.W.keepIn K (.ref f23) = true)
    (a24 : PySem.W.nsIn K mainGlobals "_law_rare" = some (some (.ref f24))) (l24 : K.lookup f24 = some ⟨oc24, od24, .func (PySem.W.fnOf "_law_rare" "_law_rare" (defArgs s_law_rare) (defBody s_law_rare) (defScope s_law_rare) .none kV24 dc24 pm24 an24 cd24 ct24), sl24⟩) (c24 : PySem.W.codeIn K cd24 "_law_rare" = true) (k24 : PySem.W.keepIn K (.ref f24) = true)
    (a25 : PySem.W.nsIn K mainGlobals "_law_met" = some (some (.ref f25))) (l25 : K.lookup f25 = some ⟨oc25, od25, .func (PySem.W.fnOf "_law_met" "_law_met" (defArgs s_law_met) (defBody s_law_met) (defScope s_law_met) .none kV25 dc25 pm25 an25 cd25 ct25), sl25⟩) (c25 : PySem.W.codeIn K cd25 "_law_met" = true) (k25 : PySem.W.keepIn K (.ref f25) = true)
    (a26 : PySem.W.nsIn K mainGlobals "_law_shuffled" = some (some (.ref f26))) (l26 : K.lookup f26 = some ⟨oc26, od26, .func (PySem.W.fnOf "_law_shuffled" "_law_shuffled" (defArgs s_law_shuffled) (defBody s_law_shuffled) (defScope s_law_shuffled) .none kV26 dc26 pm26 an26 cd26 ct26), sl26⟩) (c26 : PySem.W.codeIn K cd26 "_law_shuffled" = true) (k26 : PySem.W.keepIn K (.ref f26) = true)
    (a27 : PySem.W.nsIn K mainGlobals "_law_twins" = some (some (.ref f27))) (l27 : K.lookup f27 = some ⟨oc27, od27, .func (PySem.W.fnOf "_law_twins" "_law_twins" (defArgs s_law_twins) (defBody s_law_twins) (defScope s_law_twins) .none kV27 dc27 pm27 an27 cd27 ct27), sl27⟩) (c27 : PySem.W.codeIn K cd27 "_law_twins" = true) (k27 : PySem.W.keepIn K (.ref f27) = true)
    (a28 : PySem.W.nsIn K mainGlobals "law" = some (some (.ref f28))) (l28 : K.lookup f28 = some ⟨oc28, od28, .func (PySem.W.fnOf "law" "law" (defArgs s_law) (defBody s_law) (defScope s_law) .none kV28 dc28 pm28 an28 cd28 ct28), sl28⟩) (c28 : PySem.W.codeIn K cd28 "law" = true) (k28 : PySem.W.keepIn K (.ref f28) = true)
    (z_abs : PySem.W.nsIn K mainGlobals "abs" = some none)
    (z_all : PySem.W.nsIn K mainGlobals "all" = some none)
    (z_any : PySem.W.nsIn K mainGlobals "any" = some none)
    (z_bool : PySem.W.nsIn K mainGlobals "bool" = some none)
    (z_int : PySem.W.nsIn K mainGlobals "int" = some none)
    (z_isinstance : PySem.W.nsIn K mainGlobals "isinstance" = some none)
    (z_len : PySem.W.nsIn K mainGlobals "len" = some none)
    (z_list : PySem.W.nsIn K mainGlobals "list" = some none)
    (z_range : PySem.W.nsIn K mainGlobals "range" = some none)
    (z_sorted : PySem.W.nsIn K mainGlobals "sorted" = some none)
    (z_tuple : PySem.W.nsIn K mainGlobals "tuple" = some none) :
    ∃ fd : FuncData, (∀ (s : Shared) (v : Value), BindsTo s fd ⟨[v], []⟩ [("script", v)]) ∧ ∀ base : Heap, K.In base → base.Ns mainGlobals mg → FnOk l.prog w K mg base (L2.CX l.prog w) 7 fL fd ["script"] (spLaw K f_law) := by
  have e := hfa.symm.trans (PySem.W.mg_of X G a28)
  cases e
  have M : Mg mg (fun n => match n with | 0 => f11 | 1 => f12 | _ => fL) := ⟨PySem.W.mg_none_of X G z_abs, PySem.W.mg_none_of X G z_all, PySem.W.mg_none_of X G z_any, PySem.W.mg_none_of X G z_bool, PySem.W.mg_none_of X G z_int, PySem.W.mg_none_of X G z_isinstance, PySem.W.mg_none_of X G z_len, PySem.W.mg_none_of X G z_list, PySem.W.mg_none_of X G z_range, PySem.W.mg_none_of X G z_sorted, PySem.W.mg_none_of X G z_tuple, PySem.W.mg_of X G a11, PySem.W.mg_of X G a12⟩
  have F0 : Fd K mg "_law_begin" "_law_begin" s_law_begin ps_law_begin := fd_mk X G a0 l0 c0 k0 (fun _ _ _ _ _ _ us hl => match us, hl with | [_], _ => rfl)
  have F1 : Fd K mg "_law_draw" "_law_draw" s_law_draw ps_law_draw := fd_mk X G a1 l1 c1 k1 (fun _ _ _ _ _ _ us hl => match us, hl with | [_, _], _ => rfl)
  have F2 : Fd K mg "_law_rows_of_states" "_law_rows_of_states" s_law_rows_of_states ps_law_rows_of_states := fd_mk X G a2 l2 c2 k2 (fun _ _ _ _ _ _ us hl => match us, hl with | [_, _, _], _ => rfl)
  have F3 : Fd K mg "_law_named" "_law_named" s_law_named ps_law_named := fd_mk X G a3 l3 c3 k3 (fun _ _ _ _ _ _ us hl => match us, hl with | [_, _], _ => rfl)
  have F4 : Fd K mg "_law_pick" "_law_pick" s_law_pick ps_law_pick := fd_mk X G a4 l4 c4 k4 (fun _ _ _ _ _ _ us hl => match us, hl with | [_, _], _ => rfl)
  have F5 : Fd K mg "_law_few_names" "_law_few_names" s_law_few_names ps_law_few_names := fd_mk X G a5 l5 c5 k5 (fun _ _ _ _ _ _ us hl => match us, hl with | [_, _], _ => rfl)
  have F6 : Fd K mg "_law_few_trial" "_law_few_trial" s_law_few_trial ps_law_few_trial := fd_mk X G a6 l6 c6 k6 (fun _ _ _ _ _ _ us hl => match us, hl with | [_, _, _], _ => rfl)
  have F7 : Fd K mg "_law_row" "_law_row" s_law_row ps_law_row := fd_mk X G a7 l7 c7 k7 (fun _ _ _ _ _ _ us hl => match us, hl with | [_, _, _], _ => rfl)
  have F8 : Fd K mg "_law_password" "_law_password" s_law_password ps_law_password := fd_mk X G a8 l8 c8 k8 (fun _ _ _ _ _ _ us hl => match us, hl with | [_, _, _, _], _ => rfl)
  have F9 : Fd K mg "_law_is_int" "_law_is_int" s_law_is_int ps_law_is_int := fd_mk X G a9 l9 c9 k9 (fun _ _ _ _ _ _ us hl => match us, hl with | [_], _ => rfl)
  have F10 : Fd K mg "_law_same" "_law_same" s_law_same ps_law_same := fd_mk X G a10 l10 c10 k10 (fun _ _ _ _ _ _ us hl => match us, hl with | [_, _], _ => rfl)
  have F11 : Fd K mg "are_unlike" "are_unlike" s_are_unlike ps_are_unlike := fd_mk X G a11 l11 c11 k11 (fun _ _ _ _ _ _ us hl => match us, hl with | [_, _], _ => rfl)
  have F12 : Fd K mg "lacks_some" "lacks_some" s_lacks_some ps_lacks_some := fd_mk X G a12 l12 c12 k12 (fun _ _ _ _ _ _ us hl => match us, hl with | [_, _], _ => rfl)
  have F13 : Fd K mg "first_row" "first_row" s_first_row ps_first_row := fd_mk X G a13 l13 c13 k13 (fun _ _ _ _ _ _ us hl => match us, hl with | [_, _, _], _ => rfl)
  have F14 : Fd K mg "parting_row" "parting_row" s_parting_row ps_parting_row := fd_mk X G a14 l14 c14 k14 (fun _ _ _ _ _ _ us hl => match us, hl with | [_, _], _ => rfl)
  have F15 : Fd K mg "never_later" "never_later" s_never_later ps_never_later := fd_mk X G a15 l15 c15 k15 (fun _ _ _ _ _ _ us hl => match us, hl with | [_, _], _ => rfl)
  have F16 : Fd K mg "_law_answers" "_law_answers" s_law_answers ps_law_answers := fd_mk X G a16 l16 c16 k16 (fun _ _ _ _ _ _ us hl => match us, hl with | [_, _, _], _ => rfl)
  have F17 : Fd K mg "_law_parts_late" "_law_parts_late" s_law_parts_late ps_law_parts_late := fd_mk X G a17 l17 c17 k17 (fun _ _ _ _ _ _ us hl => match us, hl with | [_], _ => rfl)
  have F18 : Fd K mg "_law_turns_late" "_law_turns_late" s_law_turns_late ps_law_turns_late := fd_mk X G a18 l18 c18 k18 (fun _ _ _ _ _ _ us hl => match us, hl with | [_], _ => rfl)
  have F19 : Fd K mg "_law_renamed" "_law_renamed" s_law_renamed ps_law_renamed := fd_mk X G a19 l19 c19 k19 (fun _ _ _ _ _ _ us hl => match us, hl with | [_, _, _], _ => rfl)
  have F20 : Fd K mg "_law_into" "_law_into" s_law_into ps_law_into := fd_mk X G a20 l20 c20 k20 (fun _ _ _ _ _ _ us hl => match us, hl with | [_], _ => rfl)
  have F21 : Fd K mg "_law_is_parted" "_law_is_parted" s_law_is_parted ps_law_is_parted := fd_mk X G a21 l21 c21 k21 (fun _ _ _ _ _ _ us hl => match us, hl with | [_, _, _], _ => rfl)
  have F22 : Fd K mg "_law_lengths" "_law_lengths" s_law_lengths ps_law_lengths := fd_mk X G a22 l22 c22 k22 (fun _ _ _ _ _ _ us hl => match us, hl with | [_, _, _], _ => rfl)
  have F23 : Fd K mg "_law_due" "_law_due" s_law_due ps_law_due := fd_mk X G a23 l23 c23 k23 (fun _ _ _ _ _ _ us hl => match us, hl with | [_, _, _], _ => rfl)
  have F24 : Fd K mg "_law_rare" "_law_rare" s_law_rare ps_law_rare := fd_mk X G a24 l24 c24 k24 (fun _ _ _ _ _ _ us hl => match us, hl with | [_, _], _ => rfl)
  have F25 : Fd K mg "_law_met" "_law_met" s_law_met ps_law_met := fd_mk X G a25 l25 c25 k25 (fun _ _ _ _ _ _ us hl => match us, hl with | [_], _ => rfl)
  have F26 : Fd K mg "_law_shuffled" "_law_shuffled" s_law_shuffled ps_law_shuffled := fd_mk X G a26 l26 c26 k26 (fun _ _ _ _ _ _ us hl => match us, hl with | [_, _], _ => rfl)
  have F27 : Fd K mg "_law_twins" "_law_twins" s_law_twins ps_law_twins := fd_mk X G a27 l27 c27 k27 (fun _ _ _ _ _ _ us hl => match us, hl with | [_, _], _ => rfl)
  refine ⟨_, fun s v => .of_eq rfl, fun base _ _ => law_of (all_ok (P := l.prog) (w := w) (base := base) M F0 F1 F2 F3 F4 F5 F6 F7 F8 F9 F10 F11 F12 F13 F14 F15 F16 F17 F18 F19 F20 F21 F22 F23 F24 F25 F26 F27 (fun_mk (st := s_law) l28 c28 k28)) rfl⟩
end K91

namespace Bfs
/-! ### words, by length and then letter by letter -/
def lex : List Nat → List Nat → Prop
  | a :: u, b :: v => a < b ∨ (a = b ∧ lex u v)
  | _, _ => False
def slt (u v : List Nat) : Prop := u.length < v.length ∨ (u.length = v.length ∧ lex u v)
theorem lex_irrefl : ∀ u, ¬ lex u u
  | [], h => h
  | a :: u, h => by
    rcases h with h | ⟨_, h⟩
    · exact Nat.lt_irrefl _ h
    · exact lex_irrefl u h
theorem lex_trans : ∀ u v w, lex u v → lex v w → lex u w
  | a :: u, b :: v, c :: w, h1, h2 => by
    rcases h1 with h1 | ⟨rfl, h1⟩
    · rcases h2 with h2 | ⟨rfl, _⟩
      · exact .inl (Nat.lt_trans h1 h2)
      · exact .inl h1
    · rcases h2 with h2 | ⟨rfl, h2⟩
      · exact .inl h2
      · exact .inr ⟨rfl, lex_trans u v w h1 h2⟩
  | [], _, _, h1, _ => by cases h1
  | _ :: _, [], _, h1, _ => by cases h1
  | _ :: _, _ :: _, [], _, h2 => by cases h2
theorem lex_total : ∀ u v, u.length = v.length → lex u v ∨ u = v ∨ lex v u
  | [], [], _ => .inr (.inl rfl)
  | a :: u, b :: v, h => by
    rcases Nat.lt_trichotomy a b with q | rfl | q
    · exact .inl (.inl q)
    · rcases lex_total u v (by simpa using h) with r | rfl | r
      · exact .inl (.inr ⟨rfl, r⟩)
      · exact .inr (.inl rfl)
      · exact .inr (.inr (.inr ⟨rfl, r⟩))
    · exact .inr (.inr (.inl q))
  | [], _ :: _, h => by simp at h
  | _ :: _, [], h => by simp at h
theorem lex_app : ∀ u v a b, u.length = v.length → lex u v → lex (u ++ [a]) (v ++ [b])
  | x :: u, y :: v, a, b, hl, h => by
    rcases h with h | ⟨rfl, h⟩
    · exact .inl h
    · exact .inr ⟨rfl, lex_app u v a b (by simpa using hl) h⟩
  | [], _, _, _, _, h => by cases h
  | _ :: _, [], _, _, _, h => by cases h
theorem lex_last : ∀ (u : List Nat) (a b : Nat), a < b → lex (u ++ [a]) (u ++ [b])
  | [], a, b, h => .inl h
  | x :: u, a, b, h => .inr ⟨rfl, lex_last u a b h⟩
theorem slt_irrefl (u : List Nat) : ¬ slt u u := fun h => by
  rcases h with h | ⟨_, h⟩
  · exact Nat.lt_irrefl _ h
  · exact lex_irrefl u h
theorem slt_trans {u v w : List Nat} (h1 : slt u v) (h2 : slt v w) : slt u w := by
  rcases h1 with h1 | ⟨e1, h1⟩
  · rcases h2 with h2 | ⟨e2, _⟩
    · exact .inl (by omega)
    · exact .inl (by omega)
  · rcases h2 with h2 | ⟨e2, h2⟩
    · exact .inl (by omega)
    · exact .inr ⟨by omega, lex_trans u v w h1 h2⟩
theorem slt_asymm {u v : List Nat} (h1 : slt u v) (h2 : slt v u) : False := slt_irrefl u (slt_trans h1 h2)
theorem slt_total (u v : List Nat) : slt u v ∨ u = v ∨ slt v u := by
  rcases Nat.lt_trichotomy u.length v.length with q | q | q
  · exact .inl (.inl q)
  · rcases lex_total u v q with r | r | r
    · exact .inl (.inr ⟨q, r⟩)
    · exact .inr (.inl r)
    · exact .inr (.inr (.inr ⟨q.symm, r⟩))
  · exact .inr (.inr (.inl q))
theorem slt_app {u v : List Nat} (a b : Nat) (h : slt u v) : slt (u ++ [a]) (v ++ [b]) := by
  rcases h with h | ⟨e, h⟩
  · exact .inl (by simpa using h)
  · exact .inr ⟨by simpa using e, lex_app u v a b e h⟩
theorem slt_last (u : List Nat) {a b : Nat} (h : a < b) : slt (u ++ [a]) (u ++ [b]) := .inr ⟨by simp, lex_last u a b h⟩
theorem slt_grow (u : List Nat) (a : Nat) : slt u (u ++ [a]) := .inl (by simp)
theorem not_slt_nil (u : List Nat) : ¬ slt u [] := fun h => by
  rcases h with h | ⟨e, h⟩
  · simp at h
  · cases u with
    | nil => cases h
    | cons a r => cases h
theorem nslt_app {u v : List Nat} (a : Nat) (h : ¬ slt u v) : ¬ slt (u ++ [a]) (v ++ [a]) := fun z => by
  rcases slt_total u v with q | rfl | q
  · exact h q
  · exact slt_irrefl _ z
  · exact slt_asymm z (slt_app a a q)
theorem nslt_trans {u v w : List Nat} (h1 : ¬ slt u v) (h2 : ¬ slt v w) : ¬ slt u w := fun z => by
  rcases slt_total u v with q | rfl | q
  · exact h1 q
  · exact h2 z
  · exact h2 (slt_trans q z)

/-! ### the pigeons -/
theorem nodup_le : ∀ (n : Nat) (l : List Nat), l.Nodup → (∀ x ∈ l, x < n) → l.length ≤ n
  | 0, l, _, h => by
    cases l with
    | nil => simp
    | cons a r => exact absurd (h a (by simp)) (Nat.not_lt_zero a)
  | n + 1, l, nd, h => by
    have h1 := nodup_le n (l.erase n) (nd.erase n) (fun x hx => by
      have := (List.Nodup.mem_erase_iff nd).mp hx
      have := h x this.2
      omega)
    have := List.length_erase (a := n) (l := l)
    split at this
    · omega
    · omega

/-! ### the walk over a graph, breadth first -/
section
variable {α : Type} [DecidableEq α] (step : α → Nat → α) (k : Nat) (part : α → Bool) (s0 : α)
def Word (w : List Nat) : Prop := ∀ a ∈ w, a < k
def run (s : α) (w : List Nat) : α := w.foldl step s
theorem run_app (s : α) (w : List Nat) (a : Nat) : run step s (w ++ [a]) = step (run step s w) a := by simp [run]
/-- the first row that parts -/
def Least (s : α) : Option (List Nat) → Prop
  | none => ∀ u, Word k u → part (run step s u) = false
  | some w => Word k w ∧ part (run step s w) = true ∧ ∀ u, Word k u → part (run step s u) = true → ¬ slt u w
theorem least_one {s : α} {o o' : Option (List Nat)} (h : Least step k part s o) (h' : Least step k part s o') : o = o' := by
  cases o with
  | none =>
    cases o' with
    | none => rfl
    | some w => have := h w h'.1; rw [h'.2.1] at this; cases this
  | some w =>
    cases o' with
    | none => have := h' w h.1; rw [h.2.1] at this; cases this
    | some w' =>
      rcases slt_total w w' with q | rfl | q
      · exact absurd q (h'.2.2 w h.1 h.2.1)
      · rfl
      · exact absurd q (h.2.2 w' h'.1 h'.2.1)
abbrev Q := List (α × List Nat)
def add1 (p : α) (w : List Nat) (W : List (α × List Nat)) (a : Nat) : List (α × List Nat) := if step p a ∈ W.map (·.1) then W else W ++ [(step p a, w ++ [a])]
def bfs : Nat → List (α × List Nat) → Nat → Option (Option (List Nat))
  | 0, _, _ => none
  | n + 1, W, i => match W[i]? with
    | none => some none
    | some x => if part x.1 then some (some x.2) else bfs n ((List.range k).foldl (add1 step x.1 x.2) W) (i + 1)
def Proc (i c j a : Nat) : Prop := j < i ∨ (j = i ∧ a < c)
structure Inv (W : List (α × List Nat)) (i c : Nat) : Prop where
  zero : W[0]? = some (s0, [])
  run : ∀ x ∈ W, run step s0 x.2 = x.1 ∧ Word k x.2
  nodup : (W.map (·.1)).Nodup
  sorted : W.Pairwise fun x y => slt x.2 y.2
  old : ∀ j x a, W[j]? = some x → a < k → Proc i c j a → ∃ (m : Nat) (y : α × List Nat), W[m]? = some y ∧ y.1 = step x.1 a ∧ ¬ slt (x.2 ++ [a]) y.2
  src : ∀ y ∈ W, y.2 = [] ∨ ∃ j x a, Proc i c j a ∧ W[j]? = some x ∧ y.2 = x.2 ++ [a]
  np : ∀ j x, j < i → W[j]? = some x → part x.1 = false
variable {step k part s0}
theorem inv_start : Inv step k part s0 [(s0, [])] 0 0 where
  zero := rfl
  run := fun x hx => by
    simp at hx; subst hx
    exact ⟨rfl, fun a h => by simp at h⟩
  nodup := by simp
  sorted := by simp
  old := fun j x a hx _ p => by
    rcases p with p | ⟨_, p⟩ <;> omega
  src := fun y hy => by simp at hy; subst hy; exact .inl rfl
  np := fun j x h => by omega
theorem sorted_at {W : List (α × List Nat)} (h : W.Pairwise fun x y => slt x.2 y.2) {i j : Nat} {x y : α × List Nat} (hi : W[i]? = some x) (hj : W[j]? = some y) (l : i < j) : slt x.2 y.2 := by
  obtain ⟨h1, rfl⟩ := List.getElem?_eq_some_iff.mp hi
  obtain ⟨h2, rfl⟩ := List.getElem?_eq_some_iff.mp hj
  exact List.pairwise_iff_getElem.mp h i j h1 h2 l
theorem before {W : List (α × List Nat)} {i c : Nat} {x : α × List Nat} (I : Inv step k part s0 W i c) (hx : W[i]? = some x) : ∀ y ∈ W, slt y.2 (x.2 ++ [c]) := by
  intro y hy
  rcases I.src y hy with e | ⟨j, z, a, p, hz, e⟩
  · rw [e]; exact .inl (by simp)
  · rw [e]
    rcases p with p | ⟨rfl, p⟩
    · exact slt_app a c (sorted_at I.sorted hz hx p)
    · rw [hx] at hz; cases hz
      exact slt_last _ p
theorem inv_step {W : List (α × List Nat)} {i c : Nat} {x : α × List Nat} (I : Inv step k part s0 W i c) (hx : W[i]? = some x) (hc : c < k) : Inv step k part s0 (add1 step x.1 x.2 W c) i (c + 1) := by
  have mono : ∀ {j a : Nat}, Proc i c j a → Proc i (c + 1) j a := fun {j a} p => by
    rcases p with p | ⟨e, p⟩
    · exact .inl p
    · exact .inr ⟨e, by omega⟩
  unfold add1
  split
  · rename_i h
    refine ⟨I.zero, I.run, I.nodup, I.sorted, fun j z a hz ha p => ?_, fun y hy => ?_, I.np⟩
    · rcases p with p | ⟨rfl, p⟩
      · exact I.old j z a hz ha (.inl p)
      · by_cases e : a = c
        · subst e
          rw [hx] at hz; cases hz
          obtain ⟨y, hy, e⟩ := List.mem_map.mp h
          obtain ⟨m, hm, e2⟩ := List.getElem_of_mem hy
          exact ⟨m, y, by rw [List.getElem?_eq_some_iff]; exact ⟨hm, e2⟩, e, fun z => slt_asymm z (before I hx y hy)⟩
        · exact I.old j z a hz ha (.inr ⟨rfl, by omega⟩)
    · rcases I.src y hy with e | ⟨j, z, a, p, hz, e⟩
      · exact .inl e
      · exact .inr ⟨j, z, a, mono p, hz, e⟩
  · rename_i h
    have keep : ∀ {j : Nat} {z : α × List Nat}, W[j]? = some z → (W ++ [(step x.1 c, x.2 ++ [c])])[j]? = some z := fun {j z} hz => by
      rw [List.getElem?_append_left (List.getElem?_eq_some_iff.mp hz).1]; exact hz
    have back : ∀ {j : Nat} {z : α × List Nat}, (W ++ [(step x.1 c, x.2 ++ [c])])[j]? = some z → W[j]? = some z ∨ (j = W.length ∧ z = (step x.1 c, x.2 ++ [c])) := fun {j z} hz => by
      by_cases l : j < W.length
      · rw [List.getElem?_append_left l] at hz; exact .inl hz
      · rw [List.getElem?_append_right (by omega)] at hz
        by_cases l2 : j = W.length
        · subst l2
          simp at hz
          exact .inr ⟨rfl, hz.symm⟩
        · rw [List.getElem?_eq_none (by simp; omega)] at hz; cases hz
    have il : i < W.length := (List.getElem?_eq_some_iff.mp hx).1
    have xm : x ∈ W := List.mem_of_getElem? hx
    refine ⟨keep I.zero, fun y hy => ?_, ?_, ?_, fun j z a hz ha p => ?_, fun y hy => ?_, fun j z hj hz => ?_⟩
    · rcases List.mem_append.mp hy with q | q
      · exact I.run y q
      · simp at q; subst q
        obtain ⟨r1, r2⟩ := I.run x xm
        refine ⟨by rw [run_app, r1], fun a ha => ?_⟩
        rcases List.mem_append.mp ha with q | q
        · exact r2 a q
        · simp at q; omega
    · rw [List.map_append, List.nodup_append]
      refine ⟨I.nodup, by simp, fun a ha b hb e => ?_⟩
      simp at hb
      subst e; subst hb
      exact h ha
    · rw [List.pairwise_append]
      refine ⟨I.sorted, by simp, fun a ha b hb => ?_⟩
      simp at hb; subst hb
      exact before I hx a ha
    · rcases back hz with hz | ⟨e, _⟩
      · rcases p with p | ⟨rfl, p⟩
        · obtain ⟨m, y, h1, h2⟩ := I.old j z a hz ha (.inl p)
          exact ⟨m, y, keep h1, h2⟩
        · rw [hx] at hz; cases hz
          by_cases e : a = c
          · subst e
            exact ⟨W.length, (step x.1 a, x.2 ++ [a]), by simp, rfl, slt_irrefl _⟩
          · obtain ⟨m, y, h1, h2⟩ := I.old j x a hx ha (.inr ⟨rfl, by omega⟩)
            exact ⟨m, y, keep h1, h2⟩
      · rcases p with p | ⟨p, _⟩ <;> omega
    · rcases List.mem_append.mp hy with q | q
      · rcases I.src y q with e | ⟨j, z, a, p, hz, e⟩
        · exact .inl e
        · exact .inr ⟨j, z, a, mono p, keep hz, e⟩
      · simp at q; subst q
        exact .inr ⟨i, x, c, .inr ⟨rfl, by omega⟩, keep hx, rfl⟩
    · rcases back hz with hz | ⟨e, _⟩
      · exact I.np j z hj hz
      · omega
theorem add1_keep {p : α} {w : List Nat} {W : List (α × List Nat)} {c i : Nat} {x : α × List Nat} (h : W[i]? = some x) : (add1 step p w W c)[i]? = some x := by
  unfold add1
  split
  · exact h
  · rw [List.getElem?_append_left (List.getElem?_eq_some_iff.mp h).1]; exact h
theorem inv_row {W : List (α × List Nat)} {i : Nat} {x : α × List Nat} (I : Inv step k part s0 W i 0) (hx : W[i]? = some x) : ∀ c, c ≤ k → Inv step k part s0 ((List.range c).foldl (add1 step x.1 x.2) W) i c ∧ ((List.range c).foldl (add1 step x.1 x.2) W)[i]? = some x
  | 0, _ => ⟨I, hx⟩
  | c + 1, h => by
    obtain ⟨J, hJ⟩ := inv_row I hx c (by omega)
    rw [List.range_succ, List.foldl_append]
    exact ⟨inv_step J hJ (by omega), add1_keep hJ⟩
theorem inv_next {W : List (α × List Nat)} {i : Nat} {x : α × List Nat} (I : Inv step k part s0 W i 0) (hx : W[i]? = some x) (hp : part x.1 = false) : Inv step k part s0 ((List.range k).foldl (add1 step x.1 x.2) W) (i + 1) 0 := by
  obtain ⟨J, hJ⟩ := inv_row I hx k (Nat.le_refl k)
  refine ⟨J.zero, J.run, J.nodup, J.sorted, fun j z a hz ha p => ?_, fun y hy => ?_, fun j z hj hz => ?_⟩
  · refine J.old j z a hz ha ?_
    rcases p with p | ⟨_, p⟩
    · by_cases e : j = i
      · exact .inr ⟨e, ha⟩
      · exact .inl (by omega)
    · omega
  · rcases J.src y hy with e | ⟨j, z, a, p, hz, e⟩
    · exact .inl e
    · refine .inr ⟨j, z, a, .inl ?_, hz, e⟩
      rcases p with p | ⟨p, _⟩ <;> omega
  · by_cases e : j = i
    · subst e
      rw [hJ] at hz; cases hz
      exact hp
    · exact J.np j z (by omega) hz
theorem rev_ind {P : List Nat → Prop} (h0 : P []) (h1 : ∀ w a, P w → P (w ++ [a])) (w : List Nat) : P w := by
  have : ∀ v : List Nat, P v.reverse := fun v => by
    induction v with
    | nil => exact h0
    | cons a r ih => rw [List.reverse_cons]; exact h1 _ a ih
  have := this w.reverse
  rwa [List.reverse_reverse] at this
theorem word_app {w : List Nat} {a : Nat} (h : Word k (w ++ [a])) : Word k w ∧ a < k := ⟨fun b hb => h b (by simp [hb]), h a (by simp)⟩
theorem inv_all {W : List (α × List Nat)} {i : Nat} (I : Inv step k part s0 W i 0) (hi : W[i]? = none) : ∀ u, Word k u → ∃ (j : Nat) (x : α × List Nat), W[j]? = some x ∧ run step s0 u = x.1 := by
  refine rev_ind (fun _ => ⟨0, _, I.zero, rfl⟩) fun w a ih hw => ?_
  obtain ⟨w1, w2⟩ := word_app hw
  obtain ⟨j, x, h1, h2⟩ := ih w1
  have jl : j < W.length := (List.getElem?_eq_some_iff.mp h1).1
  have il : W.length ≤ i := List.getElem?_eq_none_iff.mp hi
  obtain ⟨m, y, h3, h4, _⟩ := I.old j x a h1 w2 (.inl (by omega))
  exact ⟨m, y, h3, by rw [run_app, h2, h4]⟩
theorem inv_least {W : List (α × List Nat)} {i : Nat} {x : α × List Nat} (I : Inv step k part s0 W i 0) (hx : W[i]? = some x) : ∀ u, Word k u → slt u x.2 → ∃ (j : Nat) (y : α × List Nat), j < i ∧ W[j]? = some y ∧ run step s0 u = y.1 ∧ ¬ slt u y.2 := by
  refine rev_ind (fun _ h => ?_) fun w a ih hw h => ?_
  · refine ⟨0, _, ?_, I.zero, rfl, slt_irrefl _⟩
    cases i with
    | zero => rw [I.zero] at hx; cases hx; exact absurd h (slt_irrefl _)
    | succ n => omega
  · obtain ⟨w1, w2⟩ := word_app hw
    obtain ⟨j, z, h1, h2, h3, h4⟩ := ih w1 (slt_trans (slt_grow w a) h)
    obtain ⟨m, y, h5, h6, h7⟩ := I.old j z a h2 w2 (.inl h1)
    have n1 : ¬ slt (w ++ [a]) y.2 := nslt_trans (nslt_app a h4) h7
    refine ⟨m, y, ?_, h5, by rw [run_app, h3, h6], n1⟩
    rcases Nat.lt_trichotomy m i with q | rfl | q
    · exact q
    · rw [hx] at h5; cases h5
      exact absurd h n1
    · exact absurd (slt_trans h (sorted_at I.sorted hx h5 q)) n1
theorem bfs_ok : ∀ (n : Nat) (W : List (α × List Nat)) (i : Nat) (o : Option (List Nat)), Inv step k part s0 W i 0 → bfs step k part n W i = some o → Least step k part s0 o
  | 0, W, i, o, I, h => by cases h
  | n + 1, W, i, o, I, h => by
    unfold bfs at h
    split at h
    · rename_i e
      cases h
      intro u hu
      obtain ⟨j, x, h1, h2⟩ := inv_all I e u hu
      rw [h2]
      exact I.np j x (by have := (List.getElem?_eq_some_iff.mp h1).1; have := List.getElem?_eq_none_iff.mp e; omega) h1
    · rename_i x e
      split at h
      · rename_i p
        cases h
        obtain ⟨r1, r2⟩ := I.run x (List.mem_of_getElem? e)
        refine ⟨r2, by rw [r1]; exact p, fun u hu pu z => ?_⟩
        obtain ⟨j, y, h1, h2, h3, _⟩ := inv_least I e u hu z
        rw [h3, I.np j y h1 h2] at pu
        cases pu
      · rename_i p
        exact bfs_ok n _ _ o (inv_next I e (by simpa using p)) h
theorem inv_len {W : List (α × List Nat)} {i : Nat} {c N : Nat} (I : Inv step k part s0 W i c) {num : α → Nat} (hi : ∀ x ∈ W, ∀ y ∈ W, num x.1 = num y.1 → x.1 = y.1) (hb : ∀ x ∈ W, num x.1 < N) : W.length ≤ N := by
  have := nodup_le N (W.map fun x => num x.1) (by
    have nd := I.nodup
    rw [List.Nodup, List.pairwise_map] at nd ⊢
    exact List.Pairwise.imp_of_mem (fun {x y} hx hy h e => h (hi x hx y hy e)) nd) (fun x hx => by
    obtain ⟨y, hy, rfl⟩ := List.mem_map.mp hx
    exact hb y hy)
  simpa using this
/-- it ends: a bound for what it can meet -/
theorem bfs_ends {N : Nat} {num : α → Nat} {R : α → Prop} (hR : ∀ x a, R x → a < k → R (step x a)) (h0 : R s0) (hi : ∀ x y, R x → R y → num x = num y → x = y) (hb : ∀ x, R x → num x < N) :
    ∀ (n : Nat) (W : List (α × List Nat)) (i : Nat), Inv step k part s0 W i 0 → i ≤ W.length → N + 1 ≤ n + i → ∃ o, bfs step k part n W i = some o := by
  have hW : ∀ {W : List (α × List Nat)} {i : Nat}, Inv step k part s0 W i 0 → ∀ x ∈ W, R x.1 := fun {W i} I x hx => by
    obtain ⟨r1, r2⟩ := I.run x hx
    rw [← r1]
    have : ∀ u, Word k u → R (run step s0 u) := rev_ind (fun _ => h0) fun w a ih hw => by
      rw [run_app]
      exact hR _ _ (ih (word_app hw).1) (word_app hw).2
    exact this _ r2
  intro n
  induction n with
  | zero =>
    intro W i I hl hn
    have := inv_len I (num := num) (fun x hx y hy e => hi _ _ (hW I x hx) (hW I y hy) e) (fun x hx => hb _ (hW I x hx))
    omega
  | succ n ih =>
    intro W i I hl hn
    unfold bfs
    cases e : W[i]? with
    | none => exact ⟨none, rfl⟩
    | some x =>
      simp only
      by_cases p : part x.1 = true
      · rw [if_pos p]; exact ⟨_, rfl⟩
      · rw [if_neg p]
        refine ih _ _ (inv_next I e (by simpa using p)) ?_ (by omega)
        have il := (List.getElem?_eq_some_iff.mp e).1
        obtain ⟨J, hJ⟩ := inv_row I e k (Nat.le_refl k)
        have := (List.getElem?_eq_some_iff.mp hJ).1
        omega
end
end Bfs

namespace Bfs
/-! ### lengths, backwards -/
section
variable {α : Type} [DecidableEq α] (step : α → Nat → α) (k : Nat) (part : α → Bool) (R : α → Prop) (pre : α → List α)
def updK (K : α → Option Nat) (q : α) (d : Nat) : α → Option Nat := fun x => if x = q then some d else K x
def relax (p : α) (s : (α → Option Nat) × List α) (q : α) : (α → Option Nat) × List α := if s.1 q = none then (updK s.1 q ((s.1 p).getD 0 + 1), s.2 ++ [q]) else s
def back : Nat → Nat → (α → Option Nat) × List α → (α → Option Nat)
  | 0, _, s => s.1
  | n + 1, i, s => match s.2[i]? with
    | none => s.1
    | some p => back n (i + 1) ((pre p).foldl (relax p) s)
/-- K tells how far it is to a parted one -/
structure Ex (K : α → Option Nat) : Prop where
  lo : ∀ q d, R q → K q = some d → ∃ u, Word k u ∧ u.length = d ∧ part (run step q u) = true
  hi : ∀ u q, R q → Word k u → part (run step q u) = true → ∃ d, K q = some d ∧ d ≤ u.length
structure Pre : Prop where
  reg : ∀ q a, R q → a < k → R (step q a)
  mem : ∀ p q, R p → (q ∈ pre p ↔ R q ∧ ∃ a, a < k ∧ step q a = p)
structure BInv (K : α → Option Nat) (W : List α) (i : Nat) (top : Nat) : Prop where
  len : i ≤ W.length
  inR : ∀ q ∈ W, R q
  mem : ∀ q, R q → (q ∈ W ↔ K q ≠ none)
  nodup : W.Nodup
  lo : ∀ q d, R q → K q = some d → ∃ u, Word k u ∧ u.length = d ∧ part (run step q u) = true
  zero : ∀ q, R q → part q = true → K q = some 0
  mono : W.Pairwise fun a b => (K a).getD 0 ≤ (K b).getD 0
  top : ∀ q ∈ W, (K q).getD 0 ≤ top
  done : ∀ (j : Nat) (p : α), j < i → W[j]? = some p → ∀ q ∈ pre p, ∃ d, K q = some d ∧ d ≤ (K p).getD 0 + 1
variable {step k part R pre}
theorem binv_relax {K : α → Option Nat} {W : List α} {i kp : Nat} {p q : α} (P : Pre step k R pre) (I : BInv step k part R pre K W i (kp + 1)) (hp : p ∈ W) (hk : K p = some kp) (hq : q ∈ pre p) :
    BInv step k part R pre (relax p (K, W) q).1 (relax p (K, W) q).2 i (kp + 1) ∧ (∃ d, (relax p (K, W) q).1 q = some d ∧ d ≤ kp + 1) ∧ (∀ x d, K x = some d → (relax p (K, W) q).1 x = some d) ∧ ∃ V, (relax p (K, W) q).2 = W ++ V := by
  have Rp := I.inR p hp
  obtain ⟨Rq, a, ha, hs⟩ := (P.mem p q Rp).mp hq
  unfold relax
  by_cases h : K q = none
  · have hqW : q ∉ W := fun z => (I.mem q Rq).mp z h
    have old : ∀ x d, K x = some d → updK K q ((K p).getD 0 + 1) x = some d := fun x d e => by
      unfold updK
      rw [if_neg (fun z => by rw [z, h] at e; cases e)]; exact e
    have oldW : ∀ x ∈ W, updK K q ((K p).getD 0 + 1) x = K x := fun x hx => by
      unfold updK
      rw [if_neg (fun z : x = q => hqW (z ▸ hx))]
    have atq : updK K q ((K p).getD 0 + 1) q = some (kp + 1) := by unfold updK; rw [if_pos rfl, hk]; rfl
    rw [if_pos (show (K, W).1 q = none from h)]
    refine ⟨⟨Nat.le_trans I.len (by simp), fun x hx => ?_, fun x Rx => ?_, ?_, fun x d Rx e => ?_, fun x Rx e => ?_, ?_, fun x hx => ?_, fun j y hj hy x hx => ?_⟩, ⟨_, atq, Nat.le_refl _⟩, old, [q], rfl⟩
    · rcases List.mem_append.mp hx with z | z
      · exact I.inR x z
      · simp at z; exact z ▸ Rq
    · show x ∈ W ++ [q] ↔ updK K q ((K p).getD 0 + 1) x ≠ none
      rw [List.mem_append, I.mem x Rx]
      by_cases e : x = q
      · subst e
        rw [atq]; simp
      · unfold updK
        rw [if_neg e]; simp [e]
    · rw [List.nodup_append]
      exact ⟨I.nodup, by simp, fun x hx y hy e => by simp at hy; subst hy; subst e; exact hqW hx⟩
    · by_cases z : x = q
      · subst z
        have e : updK K x ((K p).getD 0 + 1) x = some d := e
        rw [atq] at e; cases e
        obtain ⟨u, u1, u2, u3⟩ := I.lo p kp Rp hk
        refine ⟨a :: u, fun b hb => ?_, by simp [u2], ?_⟩
        · rcases List.mem_cons.mp hb with rfl | hb
          · exact ha
          · exact u1 b hb
        · show part (run step (step x a) u) = true
          rw [hs]; exact u3
      · have e : updK K q ((K p).getD 0 + 1) x = some d := e
        unfold updK at e
        rw [if_neg z] at e
        exact I.lo x d Rx e
    · exact old x 0 (I.zero x Rx e)
    · rw [List.pairwise_append]
      refine ⟨?_, by simp, fun x hx y hy => ?_⟩
      · exact List.Pairwise.imp_of_mem (fun {x y} hx hy h => by
          show (updK K q ((K p).getD 0 + 1) x).getD 0 ≤ (updK K q ((K p).getD 0 + 1) y).getD 0
          rw [oldW x hx, oldW y hy]; exact h) I.mono
      · simp at hy; subst hy
        show (updK K y ((K p).getD 0 + 1) x).getD 0 ≤ (updK K y ((K p).getD 0 + 1) y).getD 0
        rw [oldW x hx, atq]
        exact I.top x hx
    · rcases List.mem_append.mp hx with z | z
      · show (updK K q ((K p).getD 0 + 1) x).getD 0 ≤ _
        rw [oldW x z]; exact I.top x z
      · simp at z; subst z
        show (updK K x ((K p).getD 0 + 1) x).getD 0 ≤ _
        rw [atq]; exact Nat.le_refl _
    · by_cases l : j < W.length
      · have hy : (W ++ [q])[j]? = some y := hy
        rw [List.getElem?_append_left l] at hy
        obtain ⟨d, h1, h2⟩ := I.done j y hj hy x hx
        refine ⟨d, old x d h1, ?_⟩
        show d ≤ (updK K q ((K p).getD 0 + 1) y).getD 0 + 1
        rw [oldW y (List.mem_of_getElem? hy)]; exact h2
      · exact absurd (Nat.lt_of_lt_of_le hj I.len) l
  · rw [if_neg (show ¬ (K, W).1 q = none from h)]
    obtain ⟨d, hd⟩ := Option.ne_none_iff_exists'.mp h
    have hqW : q ∈ W := (I.mem q Rq).mpr h
    refine ⟨I, ⟨d, hd, ?_⟩, fun _ _ e => e, [], by simp⟩
    have := I.top q hqW
    rw [hd] at this; exact this
theorem binv_row {W0 : List α} {i kp : Nat} {p : α} (P : Pre step k R pre) : ∀ (l : List α) (K : α → Option Nat) (W : List α), BInv step k part R pre K W i (kp + 1) → p ∈ W → K p = some kp → (∀ q ∈ l, q ∈ pre p) →
    BInv step k part R pre (l.foldl (relax p) (K, W)).1 (l.foldl (relax p) (K, W)).2 i (kp + 1) ∧ (∀ q ∈ l, ∃ d, (l.foldl (relax p) (K, W)).1 q = some d ∧ d ≤ kp + 1) ∧ (∀ x d, K x = some d → (l.foldl (relax p) (K, W)).1 x = some d) ∧ ∃ V, (l.foldl (relax p) (K, W)).2 = W ++ V
  | [], K, W, I, hp, hk, hl => ⟨I, fun q hq => by simp at hq, fun _ _ e => e, [], by simp⟩
  | q :: r, K, W, I, hp, hk, hl => by
    obtain ⟨J, ⟨d, h1, h2⟩, h3, V, h4⟩ := binv_relax P I hp hk (hl q (by simp))
    have hp' : p ∈ (relax p (K, W) q).2 := by rw [h4]; exact List.mem_append_left _ hp
    obtain ⟨J2, h5, h6, V', h7⟩ := binv_row (W0 := W0) P r _ _ J hp' (h3 _ _ hk) (fun x hx => hl x (by simp [hx]))
    refine ⟨J2, fun x hx => ?_, fun x d e => h6 _ _ (h3 _ _ e), V ++ V', ?_⟩
    · rcases List.mem_cons.mp hx with rfl | hx
      · exact ⟨d, h6 _ _ h1, h2⟩
      · exact h5 x hx
    · rw [List.foldl_cons]
      show (r.foldl (relax p) (relax p (K, W) q)).2 = _
      rw [show relax p (K, W) q = ((relax p (K, W) q).1, (relax p (K, W) q).2) from rfl, h7, h4, List.append_assoc]
theorem binv_ex {K : α → Option Nat} {W : List α} {top : Nat} (P : Pre step k R pre) (I : BInv step k part R pre K W W.length top) : Ex step k part R K := by
  refine ⟨I.lo, fun u => ?_⟩
  induction u with
  | nil => exact fun q Rq _ h => ⟨0, I.zero q Rq h, Nat.zero_le _⟩
  | cons a u ih =>
    intro q Rq hu h
    have ha : a < k := hu a (by simp)
    have Rs := P.reg q a Rq ha
    obtain ⟨d, h1, h2⟩ := ih (step q a) Rs (fun b hb => hu b (by simp [hb])) h
    have hm : step q a ∈ W := (I.mem _ Rs).mpr (by rw [h1]; simp)
    obtain ⟨j, hj, e⟩ := List.getElem_of_mem hm
    obtain ⟨d', h3, h4⟩ := I.done j (step q a) hj (by rw [List.getElem?_eq_some_iff]; exact ⟨hj, e⟩) q ((P.mem _ _ Rs).mpr ⟨Rq, a, ha, rfl⟩)
    refine ⟨d', h3, ?_⟩
    rw [h1] at h4
    simp at h4 ⊢
    omega
theorem back_ex (P : Pre step k R pre) {N : Nat} (hN : ∀ (K : α → Option Nat) (W : List α) (i top : Nat), BInv step k part R pre K W i top → W.length ≤ N) :
    ∀ (n i : Nat) (K : α → Option Nat) (W : List α) (top : Nat), BInv step k part R pre K W i top → (∀ p, W[i]? = some p → top ≤ (K p).getD 0 + 1) → n + i = N → Ex step k part R (back pre n i (K, W))
  | 0, i, K, W, top, I, ht, hn => by
    have := hN K W i top I
    have e : i = W.length := by have := I.len; omega
    subst e
    exact binv_ex P I
  | n + 1, i, K, W, top, I, ht, hn => by
    unfold back
    cases e : W[i]? with
    | none =>
      have l := List.getElem?_eq_none_iff.mp e
      have e : i = W.length := by have := I.len; omega
      subst e
      exact binv_ex P I
    | some p =>
      have il := (List.getElem?_eq_some_iff.mp e).1
      have pm := List.mem_of_getElem? e
      obtain ⟨kp, hk⟩ := Option.ne_none_iff_exists'.mp ((I.mem p (I.inR p pm)).mp pm)
      have I' : BInv step k part R pre K W i (kp + 1) := ⟨I.len, I.inR, I.mem, I.nodup, I.lo, I.zero, I.mono, fun q hq => by
        have h1 := I.top q hq
        have h2 := ht p e
        rw [hk] at h2
        simp at h2
        omega, I.done⟩
      obtain ⟨J, h1, h2, V, h3⟩ := binv_row (W0 := W) P (pre p) K W I' pm hk fun _ h => h
      have key : BInv step k part R pre ((pre p).foldl (relax p) (K, W)).1 ((pre p).foldl (relax p) (K, W)).2 (i + 1) (kp + 1) := by
        refine ⟨?_, J.inR, J.mem, J.nodup, J.lo, J.zero, J.mono, J.top, fun j y hj hy x hx => ?_⟩
        · rw [h3, List.length_append]; omega
        · by_cases z : j = i
          · subst z
            rw [h3, List.getElem?_append_left il, e] at hy
            cases hy
            rw [h2 p kp hk]
            exact h1 x hx
          · exact J.done j y (by omega) hy x hx
      refine back_ex P hN n (i + 1) _ _ (kp + 1) key (fun y hy => ?_) (by omega)
      have e' : ((pre p).foldl (relax p) (K, W)).2[i]? = some p := by rw [h3, List.getElem?_append_left il]; exact e
      obtain ⟨l1, e1⟩ := List.getElem?_eq_some_iff.mp e'
      obtain ⟨l2, e2⟩ := List.getElem?_eq_some_iff.mp hy
      have := List.pairwise_iff_getElem.mp J.mono i (i + 1) l1 l2 (by omega)
      rw [e1, e2, h2 p kp hk] at this
      simp at this
      omega

/-! ### the row by the lengths -/
variable (step k)
def greedy (K : α → Option Nat) : Nat → α → List Nat
  | 0, _ => []
  | n + 1, s => match (List.range k).find? fun a => K (step s a) == some n with
    | some a => a :: greedy K n (step s a)
    | none => []
variable {step k}
theorem ex_next {K : α → Option Nat} (reg : ∀ q a, R q → a < k → R (step q a)) (X : Ex step k part R K) {s : α} {n : Nat} (Rs : R s) (h : K s = some (n + 1)) : ∃ a, a < k ∧ K (step s a) = some n := by
  obtain ⟨u, u1, u2, u3⟩ := X.lo s _ Rs h
  cases u with
  | nil => simp at u2
  | cons a v =>
    have ha : a < k := u1 a (by simp)
    obtain ⟨d, h1, h2⟩ := X.hi v (step s a) (reg s a Rs ha) (fun b hb => u1 b (by simp [hb])) u3
    simp at u2
    refine ⟨a, ha, ?_⟩
    obtain ⟨w, w1, w2, w3⟩ := X.lo (step s a) d (reg s a Rs ha) h1
    obtain ⟨d', h3, h4⟩ := X.hi (a :: w) s Rs (fun b hb => by
      rcases List.mem_cons.mp hb with rfl | hb
      · exact ha
      · exact w1 b hb) w3
    rw [h] at h3
    cases h3
    simp at h4
    rw [h1]
    congr 1
    omega
theorem greedy_least {K : α → Option Nat} (reg : ∀ q a, R q → a < k → R (step q a)) (X : Ex step k part R K) : ∀ (n : Nat) (s : α), R s → K s = some n → (greedy step k K n s).length = n ∧ Least step k part s (some (greedy step k K n s))
  | 0, s, Rs, h => by
    obtain ⟨u, u1, u2, u3⟩ := X.lo s 0 Rs h
    cases u with
    | nil => exact ⟨rfl, fun a ha => by simp [greedy] at ha, u3, fun v _ _ => not_slt_nil v⟩
    | cons a v => simp at u2
  | n + 1, s, Rs, h => by
    obtain ⟨b, hb, hK⟩ := ex_next reg X Rs h
    unfold greedy
    cases e : (List.range k).find? fun a => K (step s a) == some n with
    | none =>
      have := List.find?_eq_none.mp e b (by simp [hb])
      simp [hK] at this
    | some a =>
      obtain ⟨h1, h2, h3⟩ := List.find?_range_eq_some.mp e
      have ha : a < k := by simpa using h2
      have hKa : K (step s a) = some n := by simpa using h1
      obtain ⟨l, L1, L2, L3⟩ := greedy_least reg X n (step s a) (reg s a Rs ha) hKa
      refine ⟨by simp [l], fun c hc => ?_, L2, fun v hv pv z => ?_⟩
      · rcases List.mem_cons.mp hc with rfl | hc
        · exact ha
        · exact L1 c hc
      · obtain ⟨d, d1, d2⟩ := X.hi v s Rs hv pv
        rw [h] at d1; cases d1
        rcases z with z | ⟨z1, z2⟩
        · simp [l] at z; omega
        · cases v with
          | nil => simp at d2
          | cons c v =>
            have hc : c < k := hv c (by simp)
            simp [l] at z1
            rcases z2 with z2 | ⟨rfl, z2⟩
            · obtain ⟨d', d3, d4⟩ := X.hi v (step s c) (reg s c Rs hc) (fun x hx => hv x (by simp [hx])) pv
              have : d' = n := by
                obtain ⟨w, w1, w2, w3⟩ := X.lo (step s c) d' (reg s c Rs hc) d3
                obtain ⟨d5, h5, h6⟩ := X.hi (c :: w) s Rs (fun x hx => by
                  rcases List.mem_cons.mp hx with rfl | hx
                  · exact hc
                  · exact w1 x hx) w3
                rw [h] at h5; cases h5
                simp at h6
                omega
              subst this
              have := h3 c z2
              simp [d3] at this
            · exact L3 v (fun x hx => hv x (by simp [hx])) pv (.inr ⟨by rw [z1, l], z2⟩)
theorem due_least {K : α → Option Nat} (reg : ∀ q a, R q → a < k → R (step q a)) (X : Ex step k part R K) (s : α) (Rs : R s) : Least step k part s ((K s).map fun n => greedy step k K n s) := by
  cases h : K s with
  | none =>
    intro u hu
    cases p : part (run step s u) with
    | false => rfl
    | true =>
      obtain ⟨d, h1, _⟩ := X.hi u s Rs hu p
      rw [h] at h1; cases h1
  | some n => exact (greedy_least reg X n s Rs h).2
end
end Bfs

namespace Bfs
/-! ### a password -/
section
variable {α : Type} [DecidableEq α] {step : α → Nat → α} {k : Nat} {part : α → Bool} {s0 : α} {row : List Nat} {ht : α → Nat} {R : α → Prop}
structure Pass (step : α → Nat → α) (k : Nat) (s0 : α) (row : List Nat) (ht : α → Nat) (R : α → Prop) : Prop where
  word : Word k row
  start : R s0 ∧ ht s0 = 0
  reg : ∀ x a, R x → a < k → R (step x a)
  up : ∀ x, R x → ∀ h : ht x < row.length, ht (step x row[ht x]) = ht x + 1
  down : ∀ x a, R x → a < k → ht (step x a) ≤ ht x ∨ (ht (step x a) = ht x + 1 ∧ row[ht x]? = some a)
theorem pass_run (P : Pass step k s0 row ht R) : ∀ u, Word k u → R (run step s0 u) ∧ ht (run step s0 u) ≤ u.length ∧ (ht (run step s0 u) = u.length → u = row.take u.length) := by
  refine rev_ind (fun _ => ⟨P.start.1, by rw [show run step s0 [] = s0 from rfl, P.start.2]; exact Nat.zero_le _, fun _ => by simp⟩) fun w a ih hw => ?_
  obtain ⟨w1, w2⟩ := word_app hw
  obtain ⟨h1, h2, h3⟩ := ih w1
  rw [run_app, List.length_append, List.length_singleton]
  refine ⟨P.reg _ a h1 w2, ?_, fun e => ?_⟩
  · rcases P.down _ a h1 w2 with q | ⟨q, _⟩ <;> omega
  · rcases P.down _ a h1 w2 with q | ⟨q, q2⟩
    · omega
    · have e2 : ht (run step s0 w) = w.length := by omega
      have e3 := h3 e2
      rw [e2] at q2
      have hl := (List.getElem?_eq_some_iff.mp q2).1
      rw [List.take_add_one, q2, ← e3]
      rfl
theorem pass_row (P : Pass step k s0 row ht R) : ∀ j, j ≤ row.length → ht (run step s0 (row.take j)) = j
  | 0, _ => by rw [List.take_zero]; exact P.start.2
  | j + 1, h => by
    have ih := pass_row P j (by omega)
    have hr : R (run step s0 (row.take j)) := (pass_run P _ fun a ha => P.word a (List.mem_of_mem_take ha)).1
    rw [List.take_add_one, List.getElem?_eq_getElem (show j < row.length by omega)]
    show ht (run step s0 (row.take j ++ [row[j]])) = j + 1
    rw [run_app]
    have := P.up _ hr (by rw [ih]; omega)
    simp only [ih] at this
    exact this
theorem pass_least (P : Pass step k s0 row ht R) (hp : ∀ x, R x → (part x = true ↔ ht x = row.length)) : Least step k part s0 (some row) := by
  have e := pass_row P row.length (Nat.le_refl _)
  rw [List.take_length] at e
  obtain ⟨r1, r2, r3⟩ := pass_run P row P.word
  refine ⟨P.word, (hp _ r1).mpr e, fun u hu pu z => ?_⟩
  obtain ⟨u1, u2, u3⟩ := pass_run P u hu
  have h := (hp _ u1).mp pu
  rcases z with z | ⟨z1, z2⟩
  · omega
  · have := u3 (by omega)
    rw [z1, List.take_length] at this
    subst this
    exact lex_irrefl u z2
theorem never_least (P : Pass step k s0 row ht R) (hp : ∀ x, R x → part x = false) : Least step k part s0 none := fun u hu => hp _ (pass_run P u hu).1

/-! ### one letter: turns -/
theorem word_one {u : List Nat} (h : Word 1 u) : u = List.replicate u.length 0 := by
  apply List.ext_getElem (by simp)
  intro i h1 h2
  have := h _ (List.getElem_mem h1)
  simp
  omega
/-- the first count that parts, below a period -/
theorem turns_least (N : Nat) (hN : 0 < N) (hper : run step s0 (List.replicate N 0) = s0) : Least step 1 part s0 (((List.range N).find? fun c => part (run step s0 (List.replicate c 0))).map fun c => List.replicate c 0) := by
  have hadd : ∀ (a b : Nat) (s : α), run step s (List.replicate (a + b) 0) = run step (run step s (List.replicate a 0)) (List.replicate b 0) := fun a b s => by
    unfold run
    rw [← List.replicate_append_replicate, List.foldl_append]
  have hmul : ∀ m : Nat, run step s0 (List.replicate (N * m) 0) = s0 := fun m => by
    induction m with
    | zero => rfl
    | succ m ih => rw [Nat.mul_succ, hadd, ih, hper]
  have hmod : ∀ c : Nat, run step s0 (List.replicate c 0) = run step s0 (List.replicate (c % N) 0) := fun c => by
    have := hadd (N * (c / N)) (c % N) s0
    rw [Nat.div_add_mod, hmul] at this
    exact this
  cases e : (List.range N).find? fun c => part (run step s0 (List.replicate c 0)) with
  | none =>
    intro u hu
    rw [word_one hu, hmod]
    have := List.find?_eq_none.mp e (u.length % N) (by simp; exact Nat.mod_lt _ hN)
    simpa using this
  | some c =>
    obtain ⟨h1, h2, h3⟩ := List.find?_range_eq_some.mp e
    refine ⟨fun a ha => by have := List.eq_of_mem_replicate ha; omega, h1, fun u hu pu z => ?_⟩
    have hl : u.length < c := by
      rcases z with z | ⟨z1, z2⟩
      · simpa using z
      · have z1 : u.length = c := by simpa using z1
        have e1 := word_one hu
        rw [z1] at e1
        rw [e1] at z2
        exact absurd z2 (lex_irrefl _)
    have := h3 u.length hl
    rw [← word_one hu] at this
    simp [pu] at this
end
end Bfs

set_option maxRecDepth 100000
set_option maxHeartbeats 4000000
namespace K91
open PySem L2 VS
def mkSt (cells : List Int) (p q s : Int) : D := .lst [.lst (cells.map .int), .int p, .int q, .int s]
def St (d : D) : Prop := ∃ cells p q s, d = mkSt cells p q s ∧ 0 ≤ p
theorem draw (d : D) (m : Int) (hd : St d) (hm : 0 < m) (hm2 : m < 1073741824) : ∃ v d', f_law_draw [d, .int m] = .ok (.int v) [some d', none] ∧ St d' ∧ 0 ≤ v ∧ v < m := by
  obtain ⟨cells, p, q, s, rfl, hp⟩ := hd
  unfold f_law_draw
  rw [mkF_eq (np := 2) rfl]
  have p0 : pin_law_draw 0 = true := rfl
  have p1 : pin_law_draw 1 = false := rfl
  have p2 : pin_law_draw 2 = false := rfl
  have p3 : pin_law_draw 3 = false := rfl
  have p4 : pin_law_draw 4 = false := rfl
  have fin : ∀ (x : Int) (y : D), St y → ∃ v d', FR.ok (.int (x % m)) [some y, none] = FR.ok (.int v) [some d', none] ∧ St d' ∧ 0 ≤ v ∧ v < m := fun x y h => ⟨_, _, rfl, h, Int.emod_nonneg _ (by omega), Int.emod_lt_of_pos _ hm⟩
  by_cases hq : 0 < q
  · have := fin q _ ⟨cells, p, q / m, s, rfl, hp⟩
    simpa [mkSt, List.replicate, hq, p2, oDiv_int hm hm2, oMod_int hm, ixN, p0, p1] using this
  · have hpow : oPow (.int 10) (.int 18) = some (.int (10 ^ 18)) := rfl
    obtain ⟨B, h6, hshl⟩ : ∃ B : Int, 0 < B ∧ oShl (.int 1) (.int 6000) = some (.int B) := ⟨1 * 2 ^ 6000, by rw [Int.one_mul]; exact Int.pow_pos (by decide), rfl⟩
    have rest : ∀ (size : Int) (x : Option D), ∃ v d', frOf pin_law_draw 2 ((sSeq (sAugL 0 (fun i j => i + j) (bC (.int 1)) (bC (.int 1)))
        (sSeq (sIf (pT (pB (b2 oGe (bV 3) (b2 oMul (bC (.int 2)) (b2 oPow (bC (.int 10)) (bC (.int 18))))))) (sSeq (sAsg (eF (b2 oMod (b1 oInt (b2 oDiv (bV 3) (bC (.int 2)))) (b2 oShl (bC (.int 1)) (bC (.int 6000))))) (bName pin_law_draw 2))
        (sSeq (sSetL 0 lVar (bC (.int 2)) (eF (b2 oDiv (bV 2) (bV 1))))
        (sRet (eF (b2 oMod (b1 oInt (bV 2)) (bV 1)))))) sNil)
        (sSeq (sSetL 0 lVar (bC (.int 3)) (eF (b2 oMod (b1 oInt (b2 oAdd (b2 oAdd (b2 oAdd (b2 oMul (b2 oIx (bV 0) (bC (.int 3))) (bC (.int 48271))) (b2 oMul (b2 oMod (b1 oInt (bV 3)) (bC (.int 2147483629))) (bC (.int 16807)))) (b2 oMul (b2 oIx (bV 0) (bC (.int 1))) (bC (.int 69621)))) (bC (.int 11)))) (bC (.int 2147483647)))))
        (sRet (eF (b2 oMod (b1 oInt (b2 oDiv (b2 oIx (bV 0) (bC (.int 3))) (bC (.int 16)))) (bV 1)))))))
        [some (mkSt cells p q s), some (.int m), none, some (.int size), x]) = FR.ok (.int v) [some d', none] ∧ St d' ∧ 0 ≤ v ∧ v < m := by
      intro size x
      by_cases hs : 2000000000000000000 ≤ size
      · have := fin (size / 2 % B) _ ⟨cells, p + 1, (size / 2 % B) / m, s, rfl, by omega⟩
        simp [mkSt, sAugL, hpow, hshl, oMulL, hs, p2, oDiv_int hm hm2, oDiv_int (i := size) (j := 2) (by decide) (by decide), oMod_int hm, oMod_int h6, ixN, p0, p1]
        exact ⟨_, _, ⟨rfl, rfl⟩, ⟨cells, p + 1, _, s, rfl, by omega⟩, Int.emod_nonneg _ (by omega), Int.emod_lt_of_pos _ hm⟩
      · simp [mkSt, sAugL, hpow, hshl, oMulL, oMulR, hs, p2, oDiv_int hm hm2, oDiv_int (j := 16) (by decide) (by decide), oMod_int hm, oMod_int (j := 2147483629) (by decide), oMod_int (j := 2147483647) (by decide), ixN, p0, p1]
        exact ⟨_, _, ⟨rfl, rfl⟩, ⟨cells, p + 1, q, _, rfl, by omega⟩, Int.emod_nonneg _ (by omega), Int.emod_lt_of_pos _ hm⟩
    by_cases hl : p < cells.length
    · obtain ⟨c, hc⟩ : ∃ c, cells[p.toNat]? = some c := ⟨_, List.getElem?_eq_getElem (by omega)⟩
      have hi : oIx (.lst (cells.map .int)) (.int p) = some (.int c) := by
        have := ixL (l := cells.map .int) (n := p.toNat) (x := .int c) (by simp [hc])
        rwa [Int.toNat_of_nonneg hp] at this
      have := rest (2 * (if c < 0 then -c else c) + (if c < 0 then 1 else 0)) (some (.int c))
      simpa [mkSt, List.replicate, hq, p2, p3, p4, hl, hi, oMulL] using this
    · have := rest 0 none
      simpa [mkSt, List.replicate, hq, p2, p3, p4, hl] using this
end K91

set_option maxRecDepth 100000
set_option maxHeartbeats 1000000
namespace K91
open PySem L2 VS
theorem drawI (d : D) (m : Int) (hd : St d) (h1 : 0 < m) (h2 : m ≤ 100000) : ∃ (v : Nat) (d' : D), f_law_draw [d, .int m] = .ok (nD v) [some d', none] ∧ St d' ∧ (v : Int) < m := by
  obtain ⟨v, d', e, s, h3, h4⟩ := draw d m hd h1 (by omega)
  exact ⟨v.toNat, d', by rw [e]; unfold nD; rw [Int.toNat_of_nonneg h3], s, by rw [Int.toNat_of_nonneg h3]; exact h4⟩
theorem pn_st {d : D} (h : St d) : ∃ l, d = .lst l := by
  obtain ⟨c, p, q, s, rfl, _⟩ := h
  exact ⟨_, rfl⟩
/-- data -/
def iT (l : List Int) : D := .tup (l.map .int)
def nT (l : List Nat) : D := .tup (l.map nD)
theorem pures_nD (l : List Nat) : pures (l.map nD) = true := by
  induction l with
  | nil => simp
  | cons a r ih => simp [ih, nD]
theorem pures_all' {T : Type} {f : T → D} (h : ∀ x, (f x).pure = true) (l : List T) : pures (l.map f) = true := by
  induction l with
  | nil => simp
  | cons a r ih => simp [ih, h]
@[simp] theorem pure_nD (n : Nat) : (nD n).pure = true := rfl
@[simp] theorem pure_nT (l : List Nat) : (nT l).pure = true := by unfold nT; simp [pures_nD]
@[simp] theorem pure_iT (l : List Int) : (iT l).pure = true := by unfold iT; simp
theorem tupP {l : List D} (h : pures l = true) : oTupleP (.lst l) = some (.tup l) := by simp [oTupleP, oTuple, h]
theorem begin_ok (ns : List Int) (hl : ns.length ≤ 63) : ∃ d, f_law_begin [.rol ns] = .ok d [none] ∧ St d := by
  have h : lcL (bName (pinOf [1]) 1) tYesE b_law_begin_1 [1] (ns.map .int) [] [some (.rol ns), none] = .ok (ns.map .int, [some (.rol ns), none]) := by
    have hm : ns.map D.int = ns.map fun u => D.int (id u) := rfl
    conv => rhs; rw [hm]
    exact lcL_map D.int D.int id ns (fun u _ => ⟨_, _, _, rfl, rfl, rfl, rfl⟩) (by unfold LIM; omega)
  refine ⟨_, ?_, ⟨ns, 0, 0, 5, rfl, by omega⟩⟩
  unfold f_law_begin
  rw [mkF_eq (np := 1) rfl]
  simp [eLc, iS, itemsOf, D.pure, wipeE, h, mkSt, pin_law_begin, List.replicate]
  done
theorem row_ok (d : D) (k m : Nat) (hd : St d) (hk : 0 < k) (hk2 : k ≤ 1000) (hm : m ≤ 1000) : ∃ (w : List Nat) (d' : D), f_law_row [d, nD k, nD m] = .ok (nT w) [some d', none, none] ∧ St d' ∧ w.length = m ∧ ∀ a ∈ w, a < k := by
  obtain ⟨xs, E', h1, ⟨d', h2, h3⟩, h4, h5⟩ := lcL_inv (bd := bName (pinOf [3]) 3) (et := tYesE) (ee := b_law_row_1) (own := [3]) nD (fun E => ∃ d, St d ∧ E = [some d, some (nD k), some (nD m), none]) (fun _ x => x < k) ((List.range m).map nD) [] [some d, some (nD k), some (nD m), none] ⟨d, hd, rfl⟩ (fun y hy E hE => by
    obtain ⟨d, hd, rfl⟩ := hE
    obtain ⟨v, d', e, s, l⟩ := drawI d k hd (by omega) (by omega)
    refine ⟨_, _, [some d', some (nD k), some (nD m), some y], v, rfl, rfl, ?_, by omega, ⟨d', s, rfl⟩⟩
    simp [nD] at e
    simp [ev_aLend, nD, e]) (by simp [LIM]; omega)
  refine ⟨xs, d', ?_, h2, by simpa using h4, fun a ha => ?_⟩
  · unfold f_law_row
    rw [mkF_eq (np := 3) rfl]
    have hr := iR1_nD (ea := eCons (eF (bP (bV 2))) eNil) (E := [some d, some (nD k), some (nD m), none]) (E' := [some d, some (nD k), some (nD m), none]) (n := m) (by simp [nD]) (by omega)
    simp [eLc, hr, wipeE, h1, h3, List.replicate, tupP (pures_nD xs), pin_law_row, nT]
  · obtain ⟨i, hi, e⟩ := List.getElem_of_mem ha
    have il : i < m := by simpa [h4] using hi
    exact h5 i (nD i) a (by simp [il]) (by rw [List.getElem?_eq_some_iff]; exact ⟨hi, e⟩)
end K91

set_option maxRecDepth 100000
set_option maxHeartbeats 1000000
namespace K91
open PySem L2 VS
theorem rows_ok (d : D) (k m : Nat) (hd : St d) (hk : k ≤ 1000) (hm0 : 0 < m) (hm : m ≤ 1000) : ∃ (w : List (List Nat)) (d' : D), f_law_rows_of_states [d, nD k, nD m] = .ok (.tup (w.map nT)) [some d', none, none] ∧ St d' ∧ w.length = m ∧ ∀ r ∈ w, r.length = k ∧ ∀ a ∈ r, a < m := by
  have inner : ∀ (d y : D), St d → ∃ (r : List Nat) (d' : D), b_law_rows_of_states_2 [some d, some (nD k), some (nD m), some y, none] = .ok (nT r, [some d', some (nD k), some (nD m), some y, none]) ∧ St d' ∧ r.length = k ∧ ∀ a ∈ r, a < m := fun d y hd => by
    obtain ⟨xs, E', h1, ⟨d', h2, h3⟩, h4, h5⟩ := lcL_inv (bd := bName (pinOf [4]) 4) (et := tYesE) (ee := b_law_rows_of_states_1) (own := [4]) nD (fun E => ∃ d, St d ∧ E = [some d, some (nD k), some (nD m), some y, none]) (fun _ x => x < m) ((List.range k).map nD) [] [some d, some (nD k), some (nD m), some y, none] ⟨d, hd, rfl⟩ (fun z hz E hE => by
      obtain ⟨d, hd, rfl⟩ := hE
      obtain ⟨v, d', e, s, l⟩ := drawI d m hd (by omega) (by omega)
      refine ⟨_, _, [some d', some (nD k), some (nD m), some y, some z], v, rfl, rfl, ?_, by omega, ⟨d', s, rfl⟩⟩
      simp [nD] at e
      simp [ev_aLend, nD, e]) (by simp [LIM]; omega)
    refine ⟨xs, d', ?_, h2, by simpa using h4, fun a ha => ?_⟩
    · have hr := iR1_nD (ea := eCons (eF (bP (bV 1))) eNil) (E := [some d, some (nD k), some (nD m), some y, none]) (E' := [some d, some (nD k), some (nD m), some y, none]) (n := k) (by simp [nD]) (by omega)
      simp [eLc, hr, h1, h3, tupP (pures_nD xs), nT]
    · obtain ⟨i, hi, e⟩ := List.getElem_of_mem ha
      have il : i < k := by simpa [h4] using hi
      exact h5 i (nD i) a (by simp [il]) (by rw [List.getElem?_eq_some_iff]; exact ⟨hi, e⟩)
  obtain ⟨xs, E', h1, ⟨d', h2, h3⟩, h4, h5⟩ := lcL_inv (bd := bName (pinOf [3]) 3) (et := tYesE) (ee := b_law_rows_of_states_2) (own := [3]) nT (fun E => ∃ d, St d ∧ E = [some d, some (nD k), some (nD m), none, none]) (fun _ r => r.length = k ∧ ∀ a ∈ r, a < m) ((List.range m).map nD) [] [some d, some (nD k), some (nD m), none, none] ⟨d, hd, rfl⟩ (fun y hy E hE => by
    obtain ⟨d, hd, rfl⟩ := hE
    obtain ⟨r, d', e, s, l⟩ := inner d y hd
    exact ⟨_, _, _, r, rfl, rfl, e, l, ⟨d', s, rfl⟩⟩) (by simp [LIM]; omega)
  refine ⟨xs, d', ?_, h2, by simpa using h4, fun a ha => ?_⟩
  · unfold f_law_rows_of_states
    rw [mkF_eq (np := 3) rfl]
    have hr := iR1_nD (ea := eCons (eF (bP (bV 2))) eNil) (E := [some d, some (nD k), some (nD m), none, none]) (E' := [some d, some (nD k), some (nD m), none, none]) (n := m) (by simp [nD]) (by omega)
    have hp : pures (xs.map nT) = true := pures_all' pure_nT xs
    have p0 : pin_law_rows_of_states 0 = true := rfl
    have p1 : pin_law_rows_of_states 1 = false := rfl
    have p2 : pin_law_rows_of_states 2 = false := rfl
    simp [eLc, hr, h1, h3, List.replicate, tupP hp, p0, p1, p2]
  · obtain ⟨i, hi, e⟩ := List.getElem_of_mem ha
    have il : i < m := by simpa [h4] using hi
    exact h5 i (nD i) a (by simp [il]) (by rw [List.getElem?_eq_some_iff]; exact ⟨hi, e⟩)
theorem named_ok (d : D) (m : Nat) (hd : St d) (hm : m ≤ 1000) : ∃ (w : List Nat) (d' : D), f_law_named [d, nD m] = .ok (nT w) [some d', none] ∧ St d' ∧ w.length ≤ m := by
  obtain ⟨xs, E', h1, ⟨d', h2, h3⟩, h4, h5⟩ := lcL_some (bd := bName (pinOf [2]) 2) (et := (pE (e2 oEq (eCall f_law_draw (aLend 0 (aOwn (eF (bC (.int 2))) aNil))) (eF (bC (.int 1)))))) (ee := b_law_named_1) (own := [2]) nD (fun E => ∃ d, St d ∧ E = [some d, some (nD m), none]) (fun _ => True) ((List.range m).map nD) [] [some d, some (nD m), none] ⟨d, hd, rfl⟩ (fun z hz E hE => by
    obtain ⟨d, hd, rfl⟩ := hE
    obtain ⟨n, _, rfl⟩ := List.mem_map.mp hz
    obtain ⟨v, d', e, s, l⟩ := drawI d 2 hd (by omega) (by omega)
    have he : oEq (nD v) (.int 1) = some (.bl (decide ((v : Int) = 1))) := oEq_int _ _
    refine ⟨_, [some d', some (nD m), some (nD n)], decide ((v : Int) = 1), rfl, ?_, fun _ => ⟨[some d', some (nD m), some (nD n)], n, ?_, trivial, ⟨d', s, rfl⟩⟩, fun _ => ⟨d', s, rfl⟩⟩
    · refine ev_pE_bl ?_
      simp [ev_aLend, e, he]
    · simp) (by simp [LIM]; omega)
  refine ⟨xs, d', ?_, h2, by simpa using h4⟩
  unfold f_law_named
  rw [mkF_eq (np := 2) rfl]
  have hr := iR1_nD (ea := eCons (eF (bP (bV 1))) eNil) (E := [some d, some (nD m), none]) (E' := [some d, some (nD m), none]) (n := m) (by simp [nD]) (by omega)
  have p0 : pin_law_named 0 = true := rfl
  have p1 : pin_law_named 1 = false := rfl
  simp [-ev_e2, eLc, hr, h1, h3, List.replicate, tupP (pures_nD xs), p0, p1, nT]
  done
theorem pick_ok {T : Type} (f : T → D) (hf : ∀ x, (f x).pure = true) (d : D) (l : List T) (hd : St d) (h0 : 0 < l.length) (h1 : l.length ≤ 1000) : ∃ (x : T) (d' : D), f_law_pick [d, .lst (l.map f)] = .ok (f x) [some d', some (.lst (l.map f))] ∧ St d' ∧ x ∈ l := by
  obtain ⟨v, d', e, s, lt⟩ := drawI d l.length hd (by omega) (by omega)
  have hv : v < l.length := by omega
  refine ⟨l[v], d', ?_, s, List.getElem_mem hv⟩
  have hx : oIx (.lst (l.map f)) (nD v) = some (f l[v]) := ixL (n := v) (by simp [hv])
  unfold f_law_pick
  rw [mkF_eq (np := 2) rfl]
  have p0 : pin_law_pick 0 = true := rfl
  have p1 : pin_law_pick 1 = true := rfl
  simp [List.replicate, eIxV, ev_aLend, e, hx, hf, p0, p1]
theorem few_names_ok (d : D) (m : Nat) (hd : St d) (hm : m ≤ 1000) : ∃ (w : List (List Nat)) (d' : D), f_law_few_names [d, nD m] = .ok (.tup (w.map nT)) [some d', none] ∧ St d' ∧ w.length = m ∧ ∀ r ∈ w, r.length ≤ 5 := by
  obtain ⟨w1, d1, e1, s1, l1⟩ := named_ok d 5 hd (by omega)
  obtain ⟨w2, d2, e2, s2, l2⟩ := named_ok d1 5 s1 (by omega)
  obtain ⟨xs, E', h1, ⟨d', h2, h3⟩, h4, h5⟩ := lcL_inv (bd := bName (pinOf [3]) 3) (et := tYesE) (ee := b_law_few_names_1) (own := [3]) nT (fun E => ∃ d, St d ∧ E = [some d, some (nD m), some (.lst ([[], [], [0], w1, w2].map nT)), none]) (fun _ x => x.length ≤ 5) ((List.range m).map nD) [] [some d2, some (nD m), some (.lst ([[], [], [0], w1, w2].map nT)), none] ⟨d2, s2, rfl⟩ (fun z hz E hE => by
    obtain ⟨d, hd, rfl⟩ := hE
    obtain ⟨x, d', e, s, hx⟩ := pick_ok nT pure_nT d [[], [], [0], w1, w2] hd (Nat.succ_pos _) (show 5 ≤ 1000 by decide)
    refine ⟨_, _, [some d', some (nD m), some (.lst ([[], [], [0], w1, w2].map nT)), some z], x, rfl, rfl, ?_, ?_, ⟨d', s, rfl⟩⟩
    · simp at e
      simp [ev_aLend, e]
    · simp at hx
      rcases hx with rfl | rfl | rfl | rfl <;> first | omega | (simp; done)) (by simp [LIM]; omega)
  refine ⟨xs, d', ?_, h2, by simpa using h4, fun a ha => ?_⟩
  · unfold f_law_few_names
    rw [mkF_eq (np := 2) rfl]
    have hr := iR1_nD (ea := eCons (eF (bP (bV 1))) eNil) (E := [some d2, some (nD m), some (.lst ([[], [], [0], w1, w2].map nT)), none]) (E' := [some d2, some (nD m), some (.lst ([[], [], [0], w1, w2].map nT)), none]) (n := m) (by simp [nD]) (by omega)
    have hp : pures (xs.map nT) = true := pures_all' pure_nT xs
    have p0 : pin_law_few_names 0 = true := rfl
    have p1 : pin_law_few_names 1 = false := rfl
    have p2 : pin_law_few_names 2 = false := rfl
    simp [nD] at e1 e2
    have t0 : D.tup [] = nT [] := rfl
    have t1 : D.tup [D.int 0] = nT [0] := rfl
    simp at hr h1
    simp -implicitDefEqProofs [eLc, hr, h1, h3, List.replicate, ev_aLend, e1, e2, t0, t1, tupP hp, p0, p1, p2]
  · obtain ⟨i, hi, e⟩ := List.getElem_of_mem ha
    have il : i < m := by simpa [h4] using hi
    exact h5 i (nD i) a (by simp [il]) (by rw [List.getElem?_eq_some_iff]; exact ⟨hi, e⟩)
end K91

set_option maxRecDepth 100000
set_option maxHeartbeats 1000000
namespace K91
open PySem L2 VS
structure T where
  k : Nat
  rows : List (List Nat)
  nm : List (List Nat)
def T.enc (t : T) : D := .tup [.str "trial", nD t.k, .tup (t.rows.map nT), .tup (t.nm.map nT)]
structure T.Ok (t : T) : Prop where
  k0 : 0 < t.k
  k1 : t.k ≤ 8
  len : t.nm.length = t.rows.length
  n0 : 0 < t.rows.length
  n1 : t.rows.length ≤ 40
  row : ∀ r ∈ t.rows, r.length = t.k ∧ ∀ a ∈ r, a < t.rows.length
  nml : ∀ l ∈ t.nm, l.length ≤ 100
def T.step (t : T) (l a : Nat) : Nat := (t.rows.getD l []).getD a 0
def T.name (t : T) (l : Nat) : List Nat := t.nm.getD l []
theorem pure_enc (t : T) : t.enc.pure = true := by
  unfold T.enc
  simp [pures_all' pure_nT, D.pure]
theorem T.Ok.step_lt {t : T} (h : t.Ok) {l a : Nat} (hl : l < t.rows.length) (ha : a < t.k) : t.step l a < t.rows.length := by
  unfold T.step
  have hr := h.row t.rows[l] (List.getElem_mem hl)
  rw [show t.rows.getD l [] = t.rows[l] by simp [List.getD_eq_getElem?_getD, hl]]
  have ha' : a < t.rows[l].length := by rw [hr.1]; exact ha
  rw [show t.rows[l].getD a 0 = t.rows[l][a] by simp [List.getD_eq_getElem?_getD, ha']]
  exact hr.2 _ (List.getElem_mem ha')
theorem ix_rows {t : T} (h : t.Ok) {l a : Nat} (hl : l < t.rows.length) (ha : a < t.k) : ((oIx t.enc (.int 2)).bind fun x => (oIx x (nD l)).bind fun y => oIx y (nD a)) = some (nD (t.step l a)) := by
  have hr := h.row t.rows[l] (List.getElem_mem hl)
  have ha' : a < t.rows[l].length := by rw [hr.1]; exact ha
  have e1 : oIx t.enc (.int 2) = some (.tup (t.rows.map nT)) := ixT2
  have e2 : oIx (.tup (t.rows.map nT)) (nD l) = some (nT t.rows[l]) := ixT (n := l) (by simp [hl])
  have e3 : oIx (nT t.rows[l]) (nD a) = some (nD t.rows[l][a]) := ixT (n := a) (by simp [ha'])
  rw [e1]
  simp only [Option.bind_some]
  rw [e2]
  simp only [Option.bind_some]
  rw [e3]
  unfold T.step
  simp [List.getD_eq_getElem?_getD, hl, ha']
theorem ix_rows3 {t : T} (h : t.Ok) {l a : Nat} (hl : l < t.rows.length) (ha : a < t.k) : ∃ R r, oIx t.enc (.int 2) = some R ∧ oIx R (nD l) = some r ∧ oIx r (nD a) = some (nD (t.step l a)) := by
  have := ix_rows h hl ha
  obtain ⟨R, e1, this⟩ := Option.bind_eq_some_iff.mp this
  obtain ⟨r, e2, e3⟩ := Option.bind_eq_some_iff.mp this
  exact ⟨R, r, e1, e2, e3⟩
theorem ix_name {t : T} (h : t.Ok) {l : Nat} (hl : l < t.rows.length) : ((oIx t.enc (.int 3)).bind fun x => oIx x (nD l)) = some (nT (t.name l)) := by
  have e1 : oIx t.enc (.int 3) = some (.tup (t.nm.map nT)) := ixT3
  have hl' : l < t.nm.length := by rw [h.len]; exact hl
  have e2 : oIx (.tup (t.nm.map nT)) (nD l) = some (nT t.nm[l]) := ixT (n := l) (by simp [hl'])
  rw [e1]
  simp only [Option.bind_some]
  rw [e2]
  unfold T.name
  simp [List.getD_eq_getElem?_getD, hl']
def unl (a b : List Nat) : Bool := !decide (a = b)
def lck (a b : List Nat) : Bool := b.any fun q => !a.contains q
theorem unlike_ok (a b : List Nat) : f_are_unlike [nT a, nT b] = .ok (.bl (unl a b)) [none, none] := by
  unfold f_are_unlike
  rw [mkF_eq (np := 2) rfl]
  have e : oNe (nT a) (nT b) = some (.bl (unl a b)) := by
    unfold oNe nT
    rw [eqD_nT]; rfl
  have p0 : pin_are_unlike 0 = false := rfl
  have p1 : pin_are_unlike 1 = false := rfl
  simp -implicitDefEqProofs [e, p0, p1]
theorem lacks_ok (a b : List Nat) (hb : b.length ≤ 1000) : f_lacks_some [nT a, nT b] = .ok (.bl (lck a b)) [none, none] := by
  unfold f_lacks_some
  rw [mkF_eq (np := 2) rfl]
  have h := lcL_map (bd := bName (pinOf [2]) 2) (et := tYesE) (ee := b_lacks_some_1) (own := [2]) nD D.bl (fun q => !a.contains q) (E := [some (nT a), some (nT b), none]) b (fun u _ => ⟨_, _, [some (nT a), some (nT b), some (nD u)], rfl, rfl, by
    have := oIn_tup true u a
    simp only [if_true] at this
    simp -implicitDefEqProofs [nT, this], rfl⟩) (by unfold LIM; omega)
  have p0 : pin_lacks_some 0 = false := rfl
  have p1 : pin_lacks_some 1 = false := rfl
  have hi : itemsOf (nT b) = some (b.map nD) := by unfold nT itemsOf; simp [pures_nD]
  have ha : oAny (.lst (b.map fun u => D.bl (!a.contains u))) = some (.bl (lck a b)) := by
    show (blsOf (b.map fun u => D.bl (!a.contains u))).map (fun bs => D.bl (bs.any id)) = _
    rw [blsOf_map (fun u => !a.contains u) b]
    simp [lck, List.any_map, Function.comp_def]
  simp -implicitDefEqProofs only [List.map_cons, List.map_nil, List.cons_append, List.nil_append, List.replicate, ev_sRet, ev_e1, eLc, iS, ev_eF, ev_bP', ev_bV, gv_zero, gv_succ, Option.bind_some, pure_nT, if_true, Option.map_some, ro_some, Res.bind_ok, hi, wipeE_cons, wipeE_nil, List.set, h, ha, Res.sr_ok, frOf_rt, outs_2, p0, p1, Bool.false_eq_true, if_false]
/-! ### the two tables of the walk -/
abbrev P2 := Nat × Nat
def st2 (o u : T) (p : P2) (a : Nat) : P2 := (o.step p.1 a, u.step p.2 a)
def wD (x : P2 × List Nat) : D := .tup [.tup [nD x.1.1, nD x.1.2], nT x.2]
def kD (x : P2 × List Nat) : List L2.Key := [Sum.inl (x.1.1 : Int), Sum.inl (x.1.2 : Int)]
def metD (W : List (P2 × List Nat)) : D := .dT (W.map kD) (W.map fun _ => .bl true)
theorem findK_none {κ : Type} [DecidableEq κ] : ∀ {ks : List κ} {x : κ}, findK ks x = none ↔ x ∉ ks
  | [], x => by simp [findK]
  | k :: r, x => by
    unfold findK
    by_cases h : k = x
    · simp [h]
    · rw [if_neg h, Option.map_eq_none_iff, findK_none (ks := r)]
      simp [List.mem_cons, fun z : x = k => h z.symm]
      exact fun _ z => h z.symm
theorem kD_inj {x y : P2 × List Nat} (h : kD x = kD y) : x.1 = y.1 := by
  unfold kD at h
  simp at h
  exact Prod.ext (by omega) (by omega)
theorem kD_mem {W : List (P2 × List Nat)} {p : P2} : [Sum.inl (p.1 : Int), Sum.inl (p.2 : Int)] ∈ W.map kD ↔ p ∈ W.map (·.1) := by
  constructor
  · intro h
    obtain ⟨x, hx, e⟩ := List.mem_map.mp h
    exact List.mem_map.mpr ⟨x, hx, (kD_inj (x := x) (y := (p, [])) e)⟩
  · intro h
    obtain ⟨x, hx, rfl⟩ := List.mem_map.mp h
    exact List.mem_map.mpr ⟨x, hx, rfl⟩
theorem keyP (a b : Nat) : keyT (.tup [nD a, nD b]) = some [Sum.inl (a : Int), Sum.inl (b : Int)] := rfl
theorem met_get (W : List (P2 × List Nat)) (p : P2) : ∃ o, dGet (metD W) (.tup [nD p.1, nD p.2]) = some o ∧ o.isSome = decide (p ∈ W.map (·.1)) := by
  refine ⟨(findK (W.map kD) [Sum.inl (p.1 : Int), Sum.inl (p.2 : Int)]).bind fun j => (W.map fun _ => D.bl true)[j]?, ?_, ?_⟩
  · show (keyT (.tup [nD p.1, nD p.2])).map (fun k => (findK (W.map kD) k).bind fun j => (W.map fun _ => D.bl true)[j]?) = _
    rw [keyP]; rfl
  by_cases h : p ∈ W.map (·.1)
  · rw [decide_eq_true h]
    have h' := kD_mem.mpr h
    cases e : findK (W.map kD) [Sum.inl (p.1 : Int), Sum.inl (p.2 : Int)] with
    | none => exact absurd h' (findK_none.mp e)
    | some j =>
      have := findK_lt e
      simp at this
      simp [this]
  · rw [decide_eq_false h, findK_none.mpr (fun z => h (kD_mem.mp z))]
    rfl
theorem met_put (W : List (P2 × List Nat)) (p : P2) (w : List Nat) (h : p ∉ W.map (·.1)) (hl : W.length < LIM) : dPut (metD W) (.tup [nD p.1, nD p.2]) (.bl true) = some (metD (W ++ [(p, w)])) := by
  show ((keyT (.tup [nD p.1, nD p.2])).bind fun k => match findK (W.map kD) k with
    | none => if (decide ((W.map fun _ => D.bl true).length < LIM) && (W.map kD).length == (W.map fun _ => D.bl true).length) = true then some (D.dT (W.map kD ++ [k]) ((W.map fun _ => D.bl true) ++ [.bl true])) else none
    | some j => if (decide ((W.map fun _ => D.bl true).length < LIM) && decide (W.map kD).Nodup && (W.map kD).length == (W.map fun _ => D.bl true).length) = true then some (D.dT (W.map kD) ((W.map fun _ => D.bl true).set j (.bl true))) else none) = _
  rw [keyP]
  simp only [Option.bind_some]
  rw [findK_none.mpr (fun z => h (kD_mem.mp z))]
  simp [hl, kD, metD]
structure Good (o u : T) (W : List (P2 × List Nat)) : Prop where
  nd : (W.map (·.1)).Nodup
  reg : ∀ x ∈ W, x.1.1 < o.rows.length ∧ x.1.2 < u.rows.length
theorem good_len {o u : T} {W : List (P2 × List Nat)} (g : Good o u W) : W.length ≤ o.rows.length * u.rows.length := by
  have key : ∀ (a b m x y : Nat), b < m → y < m → a * m + b = x * m + y → a = x ∧ b = y := fun a b m x y hb hy h => by
    have e1 : (a * m + b) / m = a := by rw [Nat.mul_comm, Nat.mul_add_div (by omega)]; simp [Nat.div_eq_of_lt hb]
    have e2 : (x * m + y) / m = x := by rw [Nat.mul_comm, Nat.mul_add_div (by omega)]; simp [Nat.div_eq_of_lt hy]
    have : a = x := by rw [← e1, h, e2]
    subst this
    exact ⟨rfl, by omega⟩
  have := Bfs.nodup_le (o.rows.length * u.rows.length) (W.map fun x => x.1.1 * u.rows.length + x.1.2) (by
    have nd := g.nd
    rw [List.Nodup, List.pairwise_map] at nd ⊢
    exact List.Pairwise.imp_of_mem (fun {x y} hx hy h e => h (by
      obtain ⟨e1, e2⟩ := key _ _ _ _ _ (g.reg x hx).2 (g.reg y hy).2 e
      exact Prod.ext e1 e2)) nd) (fun z hz => by
    obtain ⟨x, hx, rfl⟩ := List.mem_map.mp hz
    obtain ⟨h1, h2⟩ := g.reg x hx
    calc x.1.1 * u.rows.length + x.1.2 < x.1.1 * u.rows.length + u.rows.length := by omega
      _ = (x.1.1 + 1) * u.rows.length := by rw [Nat.add_mul, Nat.one_mul]
      _ ≤ o.rows.length * u.rows.length := Nat.mul_le_mul_right _ h1)
  simpa using this
theorem good_small {o u : T} (ho : o.Ok) (hu : u.Ok) {W : List (P2 × List Nat)} (g : Good o u W) : W.length ≤ 1600 :=
  Nat.le_trans (good_len g) (Nat.le_trans (Nat.mul_le_mul ho.n1 hu.n1) (by decide))
theorem good_add {o u : T} (ho : o.Ok) (hu : u.Ok) {W : List (P2 × List Nat)} (g : Good o u W) {p : P2} {w : List Nat} {a : Nat} (hp : p.1 < o.rows.length ∧ p.2 < u.rows.length) (ha : a < o.k) (hk : u.k = o.k) : Good o u (Bfs.add1 (st2 o u) p w W a) := by
  unfold Bfs.add1
  split
  · exact g
  · rename_i h
    refine ⟨?_, fun x hx => ?_⟩
    · rw [List.map_append, List.nodup_append]
      refine ⟨g.nd, by simp, fun x hx y hy e => ?_⟩
      simp at hy
      subst e; subst hy
      exact h hx
    · rcases List.mem_append.mp hx with q | q
      · exact g.reg x q
      · simp at q; subst q
        exact ⟨ho.step_lt hp.1 ha, hu.step_lt hp.2 (by omega)⟩
end K91

set_option maxRecDepth 100000
set_option maxHeartbeats 2000000
namespace K91
open PySem L2 VS
def envF (o u : T) (i : Nat) (W : List (P2 × List Nat)) (j : Nat) (a b c d e : Option D) : VS.Env := [some o.enc, some u.enc, some (.fn i), some (.tup [.int 0, .int 0]), some (metD W), some (.lst (W.map wD)), some (nD j), a, b, c, d, e]
theorem pin_fr (n : Nat) : pin_first_row n = false := rfl
theorem turn_ok {o u : T} (ho : o.Ok) (hu : u.Ok) (hk : u.k = o.k) {i j : Nat} {p : P2} {w : List Nat} (hp : p.1 < o.rows.length ∧ p.2 < u.rows.length) (hw : w.length ≤ 2000) {W : List (P2 × List Nat)} (g : Good o u W) {a : Nat} (ha : a < o.k) (e11 : Option D) :
    ∃ e, b_first_row_1 (envF o u i W j (some (nD p.1)) (some (nD p.2)) (some (nT w)) (some (nD a)) e11) = .nx (envF o u i (Bfs.add1 (st2 o u) p w W a) j (some (nD p.1)) (some (nD p.2)) (some (nT w)) (some (nD a)) e) := by
  obtain ⟨R1, r1, a1, a2, a3⟩ := ix_rows3 ho hp.1 ha
  obtain ⟨R2, r2, c1, c2, c3⟩ := ix_rows3 hu hp.2 (show a < u.k by omega)
  refine ⟨some (.tup [nD (st2 o u p a).1, nD (st2 o u p a).2]), ?_⟩
  obtain ⟨x, hx, hs⟩ := met_get W (st2 o u p a)
  have n1 : (nD (o.step p.1 a)).pure = true := rfl
  have s1 : b_first_row_1 (envF o u i W j (some (nD p.1)) (some (nD p.2)) (some (nT w)) (some (nD a)) e11) = (sIf (pT (pB (bDin true (bV 11) (bV 4)))) (sSeq (sDput 4 (bV 11) (eF (bC (.bl true))))
      (sDrop (eApp 5 (eF (fTup (fCons (bP (bV 11)) (fCons (b2 oAdd (bV 9) (fTup (fCons (bP (bV 10)) fNil))) fNil))))))) sNil) (envF o u i W j (some (nD p.1)) (some (nD p.2)) (some (nT w)) (some (nD a)) (some (.tup [nD (st2 o u p a).1, nD (st2 o u p a).2]))) := by
    simp -implicitDefEqProofs [envF, a1, a2, a3, c1, c2, c3, pin_fr, st2]
  rw [s1]
  unfold Bfs.add1
  by_cases hm : st2 o u p a ∈ W.map (·.1)
  · rw [if_pos hm]
    rw [decide_eq_true hm] at hs
    have hb : bDin true (bV 11) (bV 4) (envF o u i W j (some (nD p.1)) (some (nD p.2)) (some (nT w)) (some (nD a)) (some (.tup [nD (st2 o u p a).1, nD (st2 o u p a).2]))) = some (.bl false) := by
      simp -implicitDefEqProofs [envF, bDin, hx, hs]
    simp -implicitDefEqProofs [hb]
  · rw [if_neg hm]
    rw [decide_eq_false hm] at hs
    have hx0 : x = none := by
      cases x with
      | none => rfl
      | some _ => simp at hs
    subst hx0
    have hl := good_small ho hu g
    have hb : bDin true (bV 11) (bV 4) (envF o u i W j (some (nD p.1)) (some (nD p.2)) (some (nT w)) (some (nD a)) (some (.tup [nD (st2 o u p a).1, nD (st2 o u p a).2]))) = some (.bl true) := by
      simp -implicitDefEqProofs [envF, bDin, hx, hs]
    have hput := met_put W (st2 o u p a) (w ++ [a]) hm (by unfold LIM; omega)
    have hput2 : sDput 4 (bV 11) (eF (bC (.bl true))) (envF o u i W j (some (nD p.1)) (some (nD p.2)) (some (nT w)) (some (nD a)) (some (.tup [nD (st2 o u p a).1, nD (st2 o u p a).2]))) = .nx [some o.enc, some u.enc, some (.fn i), some (.tup [.int 0, .int 0]), some (metD (W ++ [(st2 o u p a, w ++ [a])])), some (.lst (W.map wD)), some (nD j), some (nD p.1), some (nD p.2), some (nT w), some (nD a), some (.tup [nD (st2 o u p a).1, nD (st2 o u p a).2])] := by
      simp -implicitDefEqProofs [envF, sDput, hput]
    have hadd : oAdd (nT w) (.tup [nD a]) = some (nT (w ++ [a])) := by
      have c : (decide ((w.map nD).length + 1 ≤ LIM) && pures (w.map nD) && pures [nD a]) = true := by
        rw [pures_nD, decide_eq_true (by simp [LIM]; omega)]; rfl
      show (if (decide ((w.map nD).length + 1 ≤ LIM) && pures (w.map nD) && pures [nD a]) = true then some (D.tup (w.map nD ++ [nD a])) else none) = _
      rw [if_pos c]
      simp [nT]
    have hlt : W.length < LIM := by unfold LIM; omega
    simp -implicitDefEqProofs only [ev_sIf, ev_pT, ev_pB, hb, Option.bind_some, pbD_bl, Option.map_some, ro_some, Res.sr_ok, if_true, ev_sSeq, hput2, SR.bind_nx]
    simp -implicitDefEqProofs [eApp, hadd, hlt, envF, wD]
end K91

set_option maxRecDepth 100000
set_option maxHeartbeats 2000000
namespace K91
open PySem L2 VS
def ptOf : Nat → List Nat → List Nat → Bool
  | 0 => unl
  | _ => lck
theorem call2_ok {E : VS.Env} {i : Nat} (hi : i = 0 ∨ i = 1) {ea : VS.Env → Option (List D)} {a b : List Nat} (h : ea E = some [nT a, nT b]) (hg : gv E 2 = some (.fn i)) (hb : b.length ≤ 1000) : fCall2 2 0 1 f_are_unlike f_lacks_some ea E = some (.bl (ptOf i a b)) := by
  unfold fCall2
  rw [hg]
  rcases hi with rfl | rfl
  · show (if 0 = 0 then fCall f_are_unlike ea E else if 0 = 1 then fCall f_lacks_some ea E else none) = _
    rw [if_pos rfl]
    unfold fCall
    rw [h]
    simp only [Option.bind_some]
    rw [if_pos (by simp), unlike_ok]
    rfl
  · show (if 1 = 0 then fCall f_are_unlike ea E else if 1 = 1 then fCall f_lacks_some ea E else none) = _
    rw [if_neg (by decide), if_pos rfl]
    unfold fCall
    rw [h]
    simp only [Option.bind_some]
    rw [if_pos (by simp), lacks_ok a b hb]
    rfl
def part2 (i : Nat) (o u : T) (p : P2) : Bool := ptOf i (o.name p.1) (u.name p.2)
theorem name_len {t : T} (h : t.Ok) (l : Nat) : (t.name l).length ≤ 1000 := by
  unfold T.name
  by_cases hl : l < t.nm.length
  · rw [show t.nm.getD l [] = t.nm[l] by simp [List.getD_eq_getElem?_getD, hl]]
    have := h.nml _ (List.getElem_mem hl)
    omega
  · rw [show t.nm.getD l [] = [] by simp [List.getD_eq_getElem?_getD, hl]]
    simp
section
variable {o u : T} (ho : o.Ok) (hu : u.Ok) (hk : u.k = o.k) {i : Nat} (hi : i = 0 ∨ i = 1)
include ho hu hk hi
theorem pass_ok {j : Nat} {W : List (P2 × List Nat)} (g : Good o u W) {x : P2 × List Nat} (hx : W[j]? = some x) (hw : x.2.length ≤ 2000) (a b c d e : Option D) :
    (part2 i o u x.1 = true → ∃ E', b_first_row_2 (envF o u i W j a b c d e) = .rt (nT x.2) E') ∧
    (part2 i o u x.1 = false → ∃ a' b' c' d' e', b_first_row_2 (envF o u i W j a b c d e) = .nx (envF o u i ((List.range o.k).foldl (Bfs.add1 (st2 o u) x.1 x.2) W) (j + 1) a' b' c' d' e')) := by
  obtain ⟨p, w⟩ := x
  have hp := g.reg _ (List.mem_of_getElem? hx)
  have hix : oIx (.lst (W.map wD)) (nD j) = some (wD (p, w)) := ixL (n := j) (by simp [hx])
  have hpw : (wD (p, w)).pure = true := by unfold wD; simp
  have s1 : sAsg (eF (bP (b2 oIx (bV 5) (bV 6)))) (bTup 2 (bCons (bTup 2 (bCons (bName pin_first_row 7) (bCons (bName pin_first_row 8) bNil))) (bCons (bName pin_first_row 9) bNil))) (envF o u i W j a b c d e) = .nx (envF o u i W j (some (nD p.1)) (some (nD p.2)) (some (nT w)) d e) := by
    simp -implicitDefEqProofs [envF, hix, hpw]
    simp -implicitDefEqProofs [wD, bTup, bCons, bNil, pin_fr]
  have h1 := ix_name ho hp.1
  have h2 := ix_name hu hp.2
  obtain ⟨R1, a1, a2⟩ := Option.bind_eq_some_iff.mp h1
  obtain ⟨R2, c1, c2⟩ := Option.bind_eq_some_iff.mp h2
  have hc := call2_ok (E := envF o u i W j (some (nD p.1)) (some (nD p.2)) (some (nT w)) d e) hi (ea := (fCons (bP (b2 oIx (b2 oIx (bV 0) (bC (.int 3))) (bV 7))) (fCons (bP (b2 oIx (b2 oIx (bV 1) (bC (.int 3))) (bV 8))) fNil))) (a := o.name p.1) (b := u.name p.2) (by
    simp -implicitDefEqProofs [envF, a1, a2, c1, c2]) rfl (name_len hu _)
  refine ⟨fun hpt => ?_, fun hpt => ?_⟩
  · refine ⟨envF o u i W j (some (nD p.1)) (some (nD p.2)) (some (nT w)) d e, ?_⟩
    have hc : fCall2 2 0 1 f_are_unlike f_lacks_some (fCons (bP (b2 oIx (b2 oIx (bV 0) (bC (.int 3))) (bV 7))) (fCons (bP (b2 oIx (b2 oIx (bV 1) (bC (.int 3))) (bV 8))) fNil)) (envF o u i W j (some (nD p.1)) (some (nD p.2)) (some (nT w)) d e) = some (.bl true) := by rw [hc]; exact congrArg _ (congrArg _ hpt)
    have hr : sRet (eF (bP (bV 9))) (envF o u i W j (some (nD p.1)) (some (nD p.2)) (some (nT w)) d e) = .rt (nT w) (envF o u i W j (some (nD p.1)) (some (nD p.2)) (some (nT w)) d e) := by
      simp -implicitDefEqProofs [envF]
    simp -implicitDefEqProofs only [b_first_row_2, ev_sSeq, s1, SR.bind_nx, ev_sIf, ev_pT, ev_pB, hc, Option.bind_some, pbD_bl, Option.map_some, ro_some, Res.sr_ok, if_true, hr, SR.bind_rt]
  · have hc : fCall2 2 0 1 f_are_unlike f_lacks_some (fCons (bP (b2 oIx (b2 oIx (bV 0) (bC (.int 3))) (bV 7))) (fCons (bP (b2 oIx (b2 oIx (bV 1) (bC (.int 3))) (bV 8))) fNil)) (envF o u i W j (some (nD p.1)) (some (nD p.2)) (some (nT w)) d e) = some (.bl false) := by rw [hc]; exact congrArg _ (congrArg _ hpt)
    have hr : iR1 (eCons (eF (bP (b2 oIx (bV 0) (bC (.int 1))))) eNil) (envF o u i W j (some (nD p.1)) (some (nD p.2)) (some (nT w)) d e) = .ok ((List.range o.k).map nD, envF o u i W j (some (nD p.1)) (some (nD p.2)) (some (nT w)) d e) := by
      refine iR1_nD ?_ (Nat.le_trans ho.k1 (by decide))
      have : oIx o.enc (.int 1) = some (nD o.k) := ixT1
      simp -implicitDefEqProofs [envF, this]
      rfl
    obtain ⟨E', f1, _, d', e', f2⟩ := forL_fold (bd := bName pin_first_row 10) (b := b_first_row_1) (S := List (P2 × List Nat)) nD (Bfs.add1 (st2 o u) p w) (fun V E => Good o u V ∧ ∃ d' e', E = envF o u i V j (some (nD p.1)) (some (nD p.2)) (some (nT w)) d' e') (List.range o.k) W (envF o u i W j (some (nD p.1)) (some (nD p.2)) (some (nT w)) d e) ⟨g, d, e, rfl⟩ (fun y hy V E hE => by
      obtain ⟨gV, d1, e1, rfl⟩ := hE
      obtain ⟨e2, h⟩ := turn_ok ho hu hk (i := i) (j := j) hp hw gV (a := y) (by simpa using hy) e1
      exact ⟨_, _, rfl, .inl h, good_add ho hu gV hp (by simpa using hy) hk, _, _, rfl⟩)
    refine ⟨some (nD p.1), some (nD p.2), some (nT w), d', e', ?_⟩
    have hf : sFor (iR1 (eCons (eF (bP (b2 oIx (bV 0) (bC (.int 1))))) eNil)) (bName pin_first_row 10) b_first_row_1 (envF o u i W j (some (nD p.1)) (some (nD p.2)) (some (nT w)) d e) = .nx E' := by
      unfold sFor
      rw [hr]
      exact f1
    have ha : sAug pin_first_row 6 (fun i j => i + j) (eF (bC (.int 1))) E' = .nx (envF o u i ((List.range o.k).foldl (Bfs.add1 (st2 o u) p w) W) (j + 1) (some (nD p.1)) (some (nD p.2)) (some (nT w)) d' e') := by
      rw [f2]
      simp -implicitDefEqProofs [envF, sAug, pin_fr, nD]
    simp -implicitDefEqProofs only [b_first_row_2, ev_sSeq, s1, SR.bind_nx, ev_sIf, ev_pT, ev_pB, hc, Option.bind_some, pbD_bl, Option.map_some, ro_some, Res.sr_ok, Bool.false_eq_true, if_false, ev_sNil, hf, ha]
end
end K91

set_option maxRecDepth 100000
set_option maxHeartbeats 2000000
namespace K91
open PySem L2 VS
def optD : Option (List Nat) → D
  | none => .non
  | some w => nT w
section
variable {o u : T} (ho : o.Ok) (hu : u.Ok) (hk : u.k = o.k) {i : Nat} (hi : i = 0 ∨ i = 1)
include ho hu hk hi
theorem good_row {W : List (P2 × List Nat)} (g : Good o u W) {p : P2} {w : List Nat} (hp : p.1 < o.rows.length ∧ p.2 < u.rows.length) {j : Nat} (hW : ∀ x ∈ W, x.2.length ≤ j + 1) (hw : w.length ≤ j) : ∀ c, c ≤ o.k → Good o u ((List.range c).foldl (Bfs.add1 (st2 o u) p w) W) ∧ ∀ x ∈ (List.range c).foldl (Bfs.add1 (st2 o u) p w) W, x.2.length ≤ j + 1
  | 0, _ => ⟨g, hW⟩
  | c + 1, hc => by
    obtain ⟨g1, h1⟩ := good_row g hp hW hw c (by omega)
    rw [List.range_succ, List.foldl_append]
    refine ⟨good_add ho hu g1 hp (by omega) hk, fun x hx => ?_⟩
    have hx : x ∈ Bfs.add1 (st2 o u) p w ((List.range c).foldl (Bfs.add1 (st2 o u) p w) W) c := hx
    unfold Bfs.add1 at hx
    split at hx
    · exact h1 x hx
    · rcases List.mem_append.mp hx with q | q
      · exact h1 x q
      · simp at q; subst q
        simp; omega
theorem while_ok : ∀ (n : Nat) (W : List (P2 × List Nat)) (j : Nat) (a b c d e : Option D) (r : Option (List Nat)), Good o u W → (∀ x ∈ W, x.2.length ≤ j) → Bfs.bfs (st2 o u) o.k (part2 i o u) n W j = some r →
    ∃ E', whileN (pT (pB (b2 oLt (bV 6) (b1 oLen (bV 5))))) b_first_row_2 n (envF o u i W j a b c d e) = (match r with | none => .nx E' | some w => .rt (nT w) E') ∧ ∀ w, r = some w → w.length ≤ 1600
  | 0, W, j, a, b, c, d, e, r, g, hW, h => by cases h
  | n + 1, W, j, a, b, c, d, e, r, g, hW, h => by
    have ht : pT (pB (b2 oLt (bV 6) (b1 oLen (bV 5)))) (envF o u i W j a b c d e) = .ok (decide (j < W.length), envF o u i W j a b c d e) := by
      simp -implicitDefEqProofs [envF, nD]
    unfold Bfs.bfs at h
    cases hx : W[j]? with
    | none =>
      rw [hx] at h
      cases h
      have l := List.getElem?_eq_none_iff.mp hx
      refine ⟨envF o u i W j a b c d e, ?_, fun w hw => by cases hw⟩
      unfold whileN
      rw [ht, decide_eq_false (by omega)]
      rfl
    | some x =>
      rw [hx] at h
      have l := (List.getElem?_eq_some_iff.mp hx).1
      have hs := good_small ho hu g
      have hw := hW x (List.mem_of_getElem? hx)
      obtain ⟨p1, p2⟩ := pass_ok ho hu hk hi g hx (by omega) a b c d e
      simp only at h
      by_cases hp : part2 i o u x.1 = true
      · rw [if_pos hp] at h
        cases h
        obtain ⟨E', e1⟩ := p1 hp
        refine ⟨E', ?_, fun w hw => by cases hw; omega⟩
        unfold whileN
        rw [ht, decide_eq_true l]
        simp only [Res.sr_ok, if_true]
        rw [e1]
        rfl
      · rw [if_neg hp] at h
        obtain ⟨a', b', c', d', e', e1⟩ := p2 (by simpa using hp)
        obtain ⟨g2, h2⟩ := good_row ho hu hk hi g (g.reg x (List.mem_of_getElem? hx)) (j := j) (fun y hy => Nat.le_succ_of_le (hW y hy)) hw o.k (Nat.le_refl _)
        obtain ⟨E', e2, e3⟩ := while_ok n _ (j + 1) a' b' c' d' e' r g2 h2 h
        refine ⟨E', ?_, e3⟩
        unfold whileN
        rw [ht, decide_eq_true l]
        simp only [Res.sr_ok, if_true]
        rw [e1]
        exact e2
theorem first_ok : ∃ r, f_first_row [o.enc, u.enc, .fn i] = .ok (optD r) [none, none, none] ∧ Bfs.Least (st2 o u) o.k (part2 i o u) (0, 0) r ∧ (∀ w, r = some w → w.length ≤ 1600) := by
  have key : ∀ (a b m x y : Nat), b < m → y < m → a * m + b = x * m + y → a = x ∧ b = y := fun a b m x y hb hy h => by
    have e1 : (a * m + b) / m = a := by rw [Nat.mul_comm, Nat.mul_add_div (by omega)]; simp [Nat.div_eq_of_lt hb]
    have e2 : (x * m + y) / m = x := by rw [Nat.mul_comm, Nat.mul_add_div (by omega)]; simp [Nat.div_eq_of_lt hy]
    have : a = x := by rw [← e1, h, e2]
    subst this
    exact ⟨rfl, by omega⟩
  obtain ⟨r, hr⟩ := Bfs.bfs_ends (step := st2 o u) (k := o.k) (part := part2 i o u) (s0 := ((0, 0) : P2)) (N := 1600) (num := fun p => p.1 * u.rows.length + p.2) (R := fun p => p.1 < o.rows.length ∧ p.2 < u.rows.length)
    (fun x a hx ha => ⟨ho.step_lt hx.1 ha, hu.step_lt hx.2 (by omega)⟩) ⟨ho.n0, hu.n0⟩ (fun x y hx hy e => by
      obtain ⟨e1, e2⟩ := key _ _ _ _ _ hx.2 hy.2 e
      exact Prod.ext e1 e2) (fun x hx => by
      calc x.1 * u.rows.length + x.2 < x.1 * u.rows.length + u.rows.length := by have := hx.2; omega
        _ = (x.1 + 1) * u.rows.length := by rw [Nat.add_mul, Nat.one_mul]
        _ ≤ o.rows.length * u.rows.length := Nat.mul_le_mul_right _ hx.1
        _ ≤ 40 * 40 := Nat.mul_le_mul ho.n1 hu.n1
        _ = 1600 := rfl) FUEL [((0, 0), [])] 0 Bfs.inv_start (by simp) (by unfold FUEL; omega)
  have hL := Bfs.bfs_ok FUEL _ _ r (Bfs.inv_start (step := st2 o u) (k := o.k) (part := part2 i o u) (s0 := ((0, 0) : P2))) hr
  have g0 : Good o u [(((0, 0) : P2), [])] := ⟨by simp, fun x hx => by simp at hx; subst hx; exact ⟨ho.n0, hu.n0⟩⟩
  obtain ⟨E', hE, hB⟩ := while_ok ho hu hk hi FUEL [((0, 0), [])] 0 none none none none none r g0 (fun x hx => by simp at hx; subst hx; simp) hr
  refine ⟨r, ?_, hL, hB⟩
  · unfold f_first_row
    rw [mkF_eq (np := 3) rfl]
    have hs : b_first_row ([o.enc, u.enc, .fn i].map some ++ List.replicate (12 - 3) none) = (sSeq (whileN (pT (pB (b2 oLt (bV 6) (b1 oLen (bV 5))))) b_first_row_2 FUEL) (sRet (eF (bC .non)))) (envF o u i [((0, 0), [])] 0 none none none none none) := by
      have hd : fDisp1 (bV 3) (bC (.bl true)) [some o.enc, some u.enc, some (.fn i), some (.tup [.int 0, .int 0]), none, none, none, none, none, none, none, none] = some (metD [(((0, 0) : P2), [])]) := rfl
      simp -implicitDefEqProofs only [b_first_row, List.map_cons, List.map_nil, List.cons_append, List.nil_append, List.replicate, ev_sSeq, ev_sAsg, ev_eF, ev_fTup, ev_fCons, ev_bC, ev_fNil, Option.bind_some, Option.map_some, ro_some, Res.sr_ok, ev_bName, pin_fr, Bool.false_eq_true, if_false, List.set, SR.bind_nx, hd]
      rfl
    rw [hs, ev_sSeq, hE]
    cases r with
    | none => rfl
    | some w => rfl
end
end K91

set_option maxRecDepth 100000
set_option maxHeartbeats 2000000
namespace K91
open PySem L2 VS
theorem pure_optD (r : Option (List Nat)) : (optD r).pure = true := by
  cases r with
  | none => rfl
  | some w => exact pure_nT w
theorem call1 {f : List D → FR} {ea : VS.Env → Option (List D)} {E : VS.Env} {ds : List D} {d : D} {o : List (Option D)} (h : ea E = some ds) (hp : pures ds = true) (hf : f ds = .ok d o) : fCall f ea E = some d := by
  unfold fCall
  rw [h]
  simp only [Option.bind_some]
  rw [if_pos hp, hf]
section
variable {o u : T} (ho : o.Ok) (hu : u.Ok) (hk : u.k = o.k)
include ho hu hk
theorem parting_ok {r : Option (List Nat)} (h : Bfs.Least (st2 o u) o.k (part2 0 o u) (0, 0) r) : f_parting_row [o.enc, u.enc] = .ok (optD r) [none, none] := by
  obtain ⟨r', h1, h2, _⟩ := first_ok ho hu hk (i := 0) (.inl rfl)
  have e := Bfs.least_one _ _ _ h2 h
  subst e
  have hc : fCall f_first_row (fCons (bP (bV 0)) (fCons (bP (bV 1)) (fCons (bC (.fn 0)) fNil))) [some o.enc, some u.enc] = some (optD r') := call1 (ds := [o.enc, u.enc, .fn 0]) (by simp -implicitDefEqProofs [pure_enc]) (by simp -implicitDefEqProofs [pure_enc, D.pure]) h1
  unfold f_parting_row
  rw [mkF_eq (np := 2) rfl]
  have p0 : pin_parting_row 0 = false := rfl
  have p1 : pin_parting_row 1 = false := rfl
  simp -implicitDefEqProofs [List.replicate, hc, p0, p1]
theorem never_ok {r : Option (List Nat)} (h : Bfs.Least (st2 o u) o.k (part2 1 o u) (0, 0) r) : f_never_later [o.enc, u.enc] = .ok (optD r) [none, none] := by
  obtain ⟨r', h1, h2, _⟩ := first_ok ho hu hk (i := 1) (.inr rfl)
  have e := Bfs.least_one _ _ _ h2 h
  subst e
  have hc : fCall f_first_row (fCons (bP (bV 0)) (fCons (bP (bV 1)) (fCons (bC (.fn 1)) fNil))) [some o.enc, some u.enc] = some (optD r') := call1 (ds := [o.enc, u.enc, .fn 1]) (by simp -implicitDefEqProofs [pure_enc]) (by simp -implicitDefEqProofs [pure_enc, D.pure]) h1
  unfold f_never_later
  rw [mkF_eq (np := 2) rfl]
  have p0 : pin_never_later 0 = false := rfl
  have p1 : pin_never_later 1 = false := rfl
  simp -implicitDefEqProofs [List.replicate, hc, p0, p1]
theorem least_len {i : Nat} (hi : i = 0 ∨ i = 1) {w : List Nat} (h : Bfs.Least (st2 o u) o.k (part2 i o u) (0, 0) (some w)) : w.length ≤ 1600 := by
  obtain ⟨r', h1, h2, h3⟩ := first_ok ho hu hk hi
  exact h3 w (Bfs.least_one _ _ _ h2 h)
theorem least_swap {r : Option (List Nat)} (h : Bfs.Least (st2 o u) o.k (part2 0 o u) (0, 0) r) : Bfs.Least (st2 u o) u.k (part2 0 u o) (0, 0) r := by
  have hr : ∀ (w : List Nat) (p : P2), Bfs.run (st2 u o) (p.2, p.1) w = ((Bfs.run (st2 o u) p w).2, (Bfs.run (st2 o u) p w).1) := fun w => by
    induction w with
    | nil => intro p; rfl
    | cons a w ih => intro p; exact ih (st2 o u p a)
  have hp : ∀ w, part2 0 u o (Bfs.run (st2 u o) (0, 0) w) = part2 0 o u (Bfs.run (st2 o u) (0, 0) w) := fun w => by
    rw [hr w (0, 0)]
    unfold part2
    show (!decide (u.name _ = o.name _)) = (!decide (o.name _ = u.name _))
    congr 1
    exact decide_eq_decide.mpr ⟨fun h => h.symm, fun h => h.symm⟩
  cases r with
  | none => exact fun w hw => by rw [hp]; exact h w (hk ▸ hw)
  | some w => exact ⟨hk ▸ h.1, by rw [hp]; exact h.2.1, fun v hv pv => h.2.2 v (hk ▸ hv) (by rw [← hp]; exact pv)⟩
end
theorem isint_ok (n : Nat) : f_law_is_int [nD n] = .ok (.bl true) [none] := rfl
theorem same_int (n m : Nat) : f_law_same (m + 1) [nD n, nD n] = .ok (.bl true) [none, none] := by
  unfold f_law_same
  rw [mkF_eq (np := 2) rfl]
  have hc : fCall f_law_is_int (fCons (bP (bV 0)) fNil) [some (nD n), some (nD n), none] = some (.bl true) := call1 (ds := [nD n]) (by simp -implicitDefEqProofs) (by simp -implicitDefEqProofs) (isint_ok n)
  have he := oEq_nD n n
  have h1 : oIsi "tuple" (nD n) = some (.bl false) := rfl
  have h2 : oIs (nD n) .non = some (.bl false) := rfl
  have p0 : pin_law_same 0 = false := rfl
  have p1 : pin_law_same 1 = false := rfl
  simp -implicitDefEqProofs [b_law_same, List.replicate, h1, h2, fAnd, hc, he, p0, p1]
theorem same_ok (r : Option (List Nat)) (hl : ∀ w, r = some w → w.length ≤ 1600) : f_law_same 3 [optD r, optD r] = .ok (.bl true) [none, none] := by
  have p0 : pin_law_same 0 = false := rfl
  have p1 : pin_law_same 1 = false := rfl
  cases r with
  | none => rfl
  | some w =>
    have hw := hl w rfl
    show f_law_same 3 [nT w, nT w] = _
    unfold f_law_same
    rw [mkF_eq (np := 2) rfl]
    have h1 : oIsi "tuple" (nT w) = some (.bl true) := rfl
    have hlen : oLen (nT w) = some (.int (w.length : Int)) := by unfold nT; simp
    have hr : iR1 (eCons (eF (b1 oLen (bV 1))) eNil) [some (nT w), some (nT w), none] = .ok ((List.range w.length).map nD, [some (nT w), some (nT w), none]) := iR1_nD (by simp -implicitDefEqProofs [hlen]) (by omega)
    have hm := lcL_map (bd := bName (pinOf [2]) 2) (et := tYesE) (ee := b_law_same_1 (f_law_same 2)) (own := [2]) nD D.bl (fun _ => true) (E := [some (nT w), some (nT w), none]) (List.range w.length) (fun k hk => by
      have kl : k < w.length := by simpa using hk
      have hx : oIx (nT w) (nD k) = some (nD w[k]) := ixT (n := k) (by simp [kl])
      have hc : fCall (f_law_same 2) (fCons (bP (b2 oIx (bV 0) (bV 2))) (fCons (bP (b2 oIx (bV 1) (bV 2))) fNil)) [some (nT w), some (nT w), some (nD k)] = some (.bl true) := call1 (ds := [nD w[k], nD w[k]]) (by simp -implicitDefEqProofs [hx]) (by simp -implicitDefEqProofs) (same_int _ _)
      exact ⟨_, _, [some (nT w), some (nT w), some (nD k)], rfl, rfl, by simp -implicitDefEqProofs [hc], rfl⟩) (by simp [LIM]; omega)
    have ha : oAll (.lst ((List.range w.length).map fun _ => D.bl true)) = some (.bl true) := by
      show (blsOf ((List.range w.length).map fun _ => D.bl true)).map (fun bs => D.bl (bs.all id)) = _
      rw [blsOf_map (fun _ => true)]
      simp
    simp -implicitDefEqProofs [b_law_same, List.replicate, h1, hlen, eLc, hr, hm, ha, p0, p1]
end K91

set_option maxRecDepth 100000
set_option maxHeartbeats 2000000
namespace K91
open PySem L2 VS
theorem eCall_eq {f : List D → FR} {ea : VS.Env → Res (List VS.Arg × VS.Env)} {E E1 : VS.Env} {as : List VS.Arg} {ds : List D} {d : D} {o : List (Option D)} (h1 : ea E = .ok (as, E1)) (h2 : uniqA as = true) (h3 : valsA as E1 = some ds) (h4 : f ds = .ok d o) : eCall f ea E = .ok (d, giveA as o (wipeE E1 (lentOf as))) := by
  unfold eCall
  rw [h1]
  show (if uniqA as = true then (match valsA as E1 with
    | some ds => (match f ds with
      | .ok d o => Res.ok (d, giveA as o (wipeE E1 (lentOf as)))
      | .exc x o => .exc x (giveA as o (wipeE E1 (lentOf as)))
      | .no => .no)
    | none => .no) else .no) = _
  rw [if_pos h2, h3]
  show (match f ds with
      | .ok d o => Res.ok (d, giveA as o (wipeE E1 (lentOf as)))
      | .exc x o => .exc x (giveA as o (wipeE E1 (lentOf as)))
      | .no => .no) = _
  rw [h4]
theorem sAsg_eq {e : VS.Env → Res (D × VS.Env)} {bd : D → VS.Env → Option VS.Env} {E E1 E2 : VS.Env} {d : D} (h1 : e E = .ok (d, E1)) (h2 : bd d E1 = some E2) : sAsg e bd E = .nx E2 := by
  unfold sAsg
  rw [h1]
  show (match bd d E1 with
    | some E' => SR.nx E'
    | none => SR.no) = _
  rw [h2]
theorem answers_ok {o u : T} (ho : o.Ok) (hu : u.Ok) (hk : u.k = o.k) {r0 r1 r2 : Option (List Nat)} (h0 : Bfs.Least (st2 o u) o.k (part2 0 o u) (0, 0) r0) (h1 : Bfs.Least (st2 o u) o.k (part2 1 o u) (0, 0) r1) (h2 : Bfs.Least (st2 u o) u.k (part2 1 u o) (0, 0) r2)
    (dues : D) (d0 : oIx dues (.int 0) = some (optD r0)) (d1 : oIx dues (.int 1) = some (optD r1)) (d2 : oIx dues (.int 2) = some (optD r2)) : f_law_answers [o.enc, u.enc, dues] = .ok (.bl true) [none, none, some dues] := by
  have l0 : ∀ w, r0 = some w → w.length ≤ 1600 := fun w e => least_len ho hu hk (i := 0) (.inl rfl) (e ▸ h0)
  have l1 : ∀ w, r1 = some w → w.length ≤ 1600 := fun w e => least_len ho hu hk (i := 1) (.inr rfl) (e ▸ h1)
  have l2 : ∀ w, r2 = some w → w.length ≤ 1600 := fun w e => least_len hu ho hk.symm (i := 1) (.inr rfl) (e ▸ h2)
  have a0 := parting_ok ho hu hk h0
  have a1 := never_ok ho hu hk h1
  have a2 := never_ok hu ho hk.symm h2
  have a3 := parting_ok hu ho hk.symm (least_swap ho hu hk h0)
  have c : ∀ (E : VS.Env) (f : List D → FR) (ea eb : VS.Env → Option (List D)) (ed : VS.Env → Option D) (ds : List D) (r : Option (List Nat)) (oo : List (Option D)), ea E = some ds → pures ds = true → f ds = .ok (optD r) oo → ed E = some (optD r) → (∀ w, r = some w → w.length ≤ 1600) → fCall (f_law_same 3) (fCons (fCall f ea) (fCons ed fNil)) E = some (.bl true) := fun E f ea eb ed ds r oo he hp hf hd hl => by
    refine call1 (ds := [optD r, optD r]) ?_ (by simp -implicitDefEqProofs [pure_optD]) (same_ok r hl)
    have := call1 he hp hf
    simp -implicitDefEqProofs [this, hd]
  have po : pures [o.enc, u.enc] = true := by simp -implicitDefEqProofs [pure_enc]
  have pu : pures [u.enc, o.enc] = true := by simp -implicitDefEqProofs [pure_enc]
  have x0 := c [some o.enc, some u.enc, some dues] f_parting_row (fCons (bP (bV 0)) (fCons (bP (bV 1)) fNil)) fNil (bP (b2 oIx (bV 2) (bC (.int 0)))) [o.enc, u.enc] r0 _ (by simp -implicitDefEqProofs [pure_enc]) po a0 (by simp -implicitDefEqProofs [d0, pure_optD]) l0
  have x1 := c [some o.enc, some u.enc, some dues] f_never_later (fCons (bP (bV 0)) (fCons (bP (bV 1)) fNil)) fNil (bP (b2 oIx (bV 2) (bC (.int 1)))) [o.enc, u.enc] r1 _ (by simp -implicitDefEqProofs [pure_enc]) po a1 (by simp -implicitDefEqProofs [d1, pure_optD]) l1
  have x2 := c [some o.enc, some u.enc, some dues] f_never_later (fCons (bP (bV 1)) (fCons (bP (bV 0)) fNil)) fNil (bP (b2 oIx (bV 2) (bC (.int 2)))) [u.enc, o.enc] r2 _ (by simp -implicitDefEqProofs [pure_enc]) pu a2 (by simp -implicitDefEqProofs [d2, pure_optD]) l2
  have x3 := c [some o.enc, some u.enc, some dues] f_parting_row (fCons (bP (bV 1)) (fCons (bP (bV 0)) fNil)) fNil (bP (b2 oIx (bV 2) (bC (.int 0)))) [u.enc, o.enc] r0 _ (by simp -implicitDefEqProofs [pure_enc]) pu a3 (by simp -implicitDefEqProofs [d0, pure_optD]) l0
  unfold f_law_answers
  rw [mkF_eq (np := 3) rfl]
  have p0 : pin_law_answers 0 = false := rfl
  have p1 : pin_law_answers 1 = false := rfl
  have p2 : pin_law_answers 2 = true := rfl
  simp -implicitDefEqProofs only [b_law_answers, List.map_cons, List.map_nil, List.cons_append, List.nil_append, Nat.sub_self, List.replicate_zero, ev_sSeq, ev_sIf, ev_pOr, ev_pT, ev_pNot, ev_pB, x0, x1, x2, x3, Option.bind_some, pbD_bl, Option.map_some, Bool.not_true, ro_some, Res.bind_ok, Bool.false_eq_true, if_false, Res.sr_ok, ev_sNil, SR.bind_nx, ev_sRet, ev_eF, fAnd, frOf_rt, outs_3, p0, p1, p2, gv_zero, gv_succ, if_true]
theorem self_least {o : T} (i : Nat) (hi : i = 0 ∨ i = 1) : Bfs.Least (st2 o o) o.k (part2 i o o) (0, 0) none := by
  intro w _
  have hr : ∀ (w : List Nat) (q : Nat), (Bfs.run (st2 o o) (q, q) w).1 = (Bfs.run (st2 o o) (q, q) w).2 := fun w => by
    induction w with
    | nil => intro q; rfl
    | cons a w ih => intro q; exact ih (o.step q a)
  unfold part2
  rw [hr w 0]
  rcases hi with rfl | rfl
  · show (!decide (_ = _)) = false
    simp
  · show List.any _ _ = false
    rw [List.any_eq_false]
    intro x hx
    simp [hx]
theorem self_ok {o : T} (ho : o.Ok) : f_law_answers [o.enc, o.enc, .tup [.non, .non, .non]] = .ok (.bl true) [none, none, some (.tup [.non, .non, .non])] :=
  answers_ok ho ho rfl (r0 := none) (r1 := none) (r2 := none) (self_least 0 (.inl rfl)) (self_least 1 (.inr rfl)) (self_least 1 (.inr rfl)) _ ixT0 ixT1 ixT2
theorem few_trial_ok (d : D) (k m : Nat) (hd : St d) (hk0 : 0 < k) (hk : k ≤ 8) (hm0 : 0 < m) (hm : m ≤ 40) : ∃ (t : T) (d' : D), f_law_few_trial [d, nD k, nD m] = .ok t.enc [some d', none, none] ∧ St d' ∧ t.Ok ∧ t.k = k ∧ t.rows.length = m := by
  obtain ⟨rows, d1, e1, s1, l1, r1⟩ := rows_ok d k m hd (by omega) hm0 (by omega)
  obtain ⟨nm, d2, e2, s2, l2, r2⟩ := few_names_ok d1 m s1 (by omega)
  refine ⟨⟨k, rows, nm⟩, d2, ?_, s2, ⟨hk0, hk, l2.trans l1.symm, l1 ▸ hm0, l1 ▸ hm, fun r hr => by
    have := r1 r hr
    exact ⟨this.1, fun a ha => l1 ▸ this.2 a ha⟩, fun l hl => by have := r2 l hl; omega⟩, rfl, l1⟩
  unfold f_law_few_trial
  rw [mkF_eq (np := 3) rfl]
  have p0 : pin_law_few_trial 0 = true := rfl
  have p1 : pin_law_few_trial 1 = false := rfl
  have p2 : pin_law_few_trial 2 = false := rfl
  have p3 : pin_law_few_trial 3 = false := rfl
  have hp : pures (rows.map nT) = true := pures_all' pure_nT rows
  have s1 : sAsg (eCall f_law_rows_of_states (aLend 0 (aOwn (eF (bP (bV 1))) (aOwn (eF (bP (bV 2))) aNil)))) (bName pin_law_few_trial 3) [some d, some (nD k), some (nD m), none] = .nx [some d1, some (nD k), some (nD m), some (.tup (rows.map nT))] := by
    refine sAsg_eq (eCall_eq (as := [.l 0, .o (nD k), .o (nD m)]) (E1 := [some d, some (nD k), some (nD m), none]) rfl rfl rfl e1) rfl
  have s2 : eCall f_law_few_names (aLend 0 (aOwn (eF (bP (bV 2))) aNil)) [some d1, some (nD k), some (nD m), some (.tup (rows.map nT))] = .ok (.tup (nm.map nT), [some d2, some (nD k), some (nD m), some (.tup (rows.map nT))]) := by
    exact eCall_eq (as := [.l 0, .o (nD m)]) (E1 := [some d1, some (nD k), some (nD m), some (.tup (rows.map nT))]) rfl rfl rfl e2
  have hq : (D.tup (rows.map nT)).pure = true := by rw [pure_tup]; exact hp
  have s3 : sRet (eTup (eCons (eF (bC (.str "trial"))) (eCons (eF (bP (bV 1))) (eCons (eF (bP (bV 3))) (eCons (eCall f_law_few_names (aLend 0 (aOwn (eF (bP (bV 2))) aNil))) eNil))))) [some d1, some (nD k), some (nD m), some (.tup (rows.map nT))] = .rt (.tup [.str "trial", nD k, .tup (rows.map nT), .tup (nm.map nT)]) [some d2, some (nD k), some (nD m), some (.tup (rows.map nT))] := by
    have q1 : eF (bP (bV 1)) [some d1, some (nD k), some (nD m), some (.tup (rows.map nT))] = .ok (nD k, [some d1, some (nD k), some (nD m), some (.tup (rows.map nT))]) := rfl
    have q3 : eF (bP (bV 3)) [some d1, some (nD k), some (nD m), some (.tup (rows.map nT))] = .ok (.tup (rows.map nT), [some d1, some (nD k), some (nD m), some (.tup (rows.map nT))]) := by
      rw [ev_eF, ev_bP (d := .tup (rows.map nT)) rfl hq]; rfl
    rw [ev_sRet, ev_eTup, ev_eCons]
    show ((((eCons (eF (bP (bV 1))) (eCons (eF (bP (bV 3))) (eCons (eCall f_law_few_names (aLend 0 (aOwn (eF (bP (bV 2))) aNil))) eNil)) [some d1, some (nD k), some (nD m), some (.tup (rows.map nT))]).bind fun q => .ok (D.str "trial" :: q.1, q.2)).bind fun p => .ok (D.tup p.1, p.2)).sr fun p => .rt p.1 p.2) = _
    rw [ev_eCons, q1, rb_ok, ev_eCons, q3, rb_ok, ev_eCons, s2]
    rfl
  show frOf pin_law_few_trial 3 (sSeq _ _ [some d, some (nD k), some (nD m), none]) = _
  rw [ev_sSeq, s1]
  show frOf pin_law_few_trial 3 (sRet _ _) = _
  rw [s3]
  rfl
end K91

set_option maxRecDepth 100000
set_option maxHeartbeats 2000000
namespace K91
open PySem L2 VS
def llD (V : List (List Nat)) : D := .lst (V.map fun l => .lst (l.map nD))
def envI (t : T) (F : D) (a : Nat) (V : List (List Nat)) (x : Option D) : VS.Env := [some t.enc, some F, some (nD a), some (llD V), x]
theorem ixN_nat {n j : Nat} (h : j < n) : ixN n (j : Int) = some j := by
  unfold ixN
  rw [if_pos (by omega), if_pos (by omega)]
  simp
theorem into_turn {t : T} (h : t.Ok) {F : D} {a s : Nat} (ha : a < t.k) (hs : s < t.rows.length) {V : List (List Nat)} (hV : V.length = t.rows.length) (hl : ∀ l ∈ V, l.length ≤ 1000) :
    b_law_into_2 (envI t F a V (some (nD s))) = .nx (envI t F a (V.modify (t.step s a) (· ++ [s])) (some (nD s))) := by
  obtain ⟨R1, r1, a1, a2, a3⟩ := ix_rows3 h hs ha
  have hj : t.step s a < V.length := by rw [hV]; exact h.step_lt hs ha
  have e1 : (lIx 3 lVar (b2 oIx (b2 oIx (b2 oIx (bV 0) (bC (.int 2))) (bV 4)) (bV 2))) (envI t F a V (some (nD s))) = some [t.step s a] := by
    have e0 : (b2 oIx (b2 oIx (b2 oIx (bV 0) (bC (.int 2))) (bV 4)) (bV 2)) (envI t F a V (some (nD s))) = some (nD (t.step s a)) := by
      simp -implicitDefEqProofs [envI, a1, a2, a3]
    show ((some (llD V)).bind fun d => (atD [] d).bind fun x => (kids x).bind fun l => match (b2 oIx (b2 oIx (b2 oIx (bV 0) (bC (.int 2))) (bV 4)) (bV 2)) (envI t F a V (some (nD s))) with
      | some (.int i) => (ixN l.length i).map fun j => [] ++ [j]
      | _ => none) = _
    rw [e0]
    show (ixN (V.map fun l => D.lst (l.map nD)).length (t.step s a : Int)).map (fun j => [] ++ [j]) = _
    rw [ixN_nat (by simpa using hj)]
    rfl
  have e2 : atD [t.step s a] (llD V) = some (.lst ((V[t.step s a]).map nD)) := by
    show ((V.map fun l => D.lst (l.map nD))[t.step s a]?).bind (atD []) = _
    rw [List.getElem?_map, List.getElem?_eq_getElem hj]
    rfl
  have hlen : ((V[t.step s a]).map nD).length < LIM := by
    have := hl _ (List.getElem_mem hj)
    simp [LIM]; omega
  have e3 : eAppP 3 (lIx 3 lVar (b2 oIx (b2 oIx (b2 oIx (bV 0) (bC (.int 2))) (bV 4)) (bV 2))) (bP (bV 4)) (envI t F a V (some (nD s))) = .ok (.non, (envI t F a V (some (nD s))).set 3 (some (modD [t.step s a] (fun _ => .lst ((V[t.step s a]).map nD ++ [nD s])) (llD V)))) := by
    unfold eAppP
    rw [e1]
    show Res.of (match atD [t.step s a] (llD V) with
      | some (.lst l) => if l.length < LIM then some (D.non, (envI t F a V (some (nD s))).set 3 (some (modD [t.step s a] (fun _ => .lst (l ++ [nD s])) (llD V)))) else none
      | _ => none) = _
    rw [e2]
    show Res.of (if ((V[t.step s a]).map nD).length < LIM then _ else none) = _
    rw [if_pos hlen]
    rfl
  have e4 : modD [t.step s a] (fun _ => .lst ((V[t.step s a]).map nD ++ [nD s])) (llD V) = llD (V.modify (t.step s a) (· ++ [s])) := by
    show D.lst ((V.map fun l => D.lst (l.map nD)).modify (t.step s a) (fun _ => .lst ((V[t.step s a]).map nD ++ [nD s]))) = _
    unfold llD
    congr 1
    apply List.ext_getElem?
    intro i
    rw [List.getElem?_modify, List.getElem?_map, List.getElem?_map, List.getElem?_modify]
    by_cases e : t.step s a = i
    · subst e
      simp [hj]
    · simp [e]
  rw [show b_law_into_2 (envI t F a V (some (nD s))) = (eAppP 3 (lIx 3 lVar (b2 oIx (b2 oIx (b2 oIx (bV 0) (bC (.int 2))) (bV 4)) (bV 2))) (bP (bV 4)) (envI t F a V (some (nD s)))).sr (fun p => .nx p.2) from rfl, e3, e4]
  rfl
end K91

set_option maxRecDepth 100000
set_option maxHeartbeats 2000000
namespace K91
open PySem L2 VS
theorem sSeq_nx {a b : VS.Env → SR} {E E1 : VS.Env} (h : a E = .nx E1) : sSeq a b E = b E1 := by
  unfold sSeq
  rw [h]; rfl
theorem itemsOf_tup {l : List D} (h : pures l = true) : itemsOf (.tup l) = some l := by
  show (if pures l = true then some l else none) = _
  rw [if_pos h]
theorem forL_range {bd : D → VS.Env → Option VS.Env} {b : VS.Env → SR} (I : Nat → VS.Env → Prop) (n : Nat) (h : ∀ c, c < n → ∀ E, I c E → ∃ E1 E2, bd (nD c) E = some E1 ∧ (b E1 = .nx E2 ∨ b E1 = .ct E2) ∧ I (c + 1) E2) (E : VS.Env) (h0 : I 0 E) :
    ∃ E', forL bd b ((List.range n).map nD) E = .nx E' ∧ I n E' := by
  have key : ∀ (m c : Nat) (E : VS.Env), c + m = n → I c E → ∃ E', forL bd b ((List.range' c m).map nD) E = .nx E' ∧ I n E' := fun m => by
    induction m with
    | zero =>
      intro c E hc hE
      have : c = n := by omega
      subst this
      exact ⟨E, rfl, hE⟩
    | succ m ih =>
      intro c E hc hE
      obtain ⟨E1, E2, h1, h2, h3⟩ := h c (by omega) E hE
      obtain ⟨E', g1, g2⟩ := ih (c + 1) E2 (by omega) h3
      refine ⟨E', ?_, g2⟩
      rw [List.range'_succ, List.map_cons]
      show (match bd (nD c) E with | some E1 => loopK (b E1) (forL bd b ((List.range' (c + 1) m).map nD)) | none => .no) = _
      rw [h1]
      rcases h2 with h2 | h2
      · show loopK (b E1) _ = _
        rw [h2]; exact g1
      · show loopK (b E1) _ = _
        rw [h2]; exact g1
  rw [List.range_eq_range']
  exact key n 0 E (by omega) h0
def intoC (t : T) (a c : Nat) : List (List Nat) := (List.range t.rows.length).map fun p => (List.range c).filter fun s => t.step s a == p
theorem intoC_succ (t : T) (a c : Nat) : (intoC t a c).modify (t.step c a) (· ++ [c]) = intoC t a (c + 1) := by
  apply List.ext_getElem?
  intro i
  unfold intoC
  rw [List.getElem?_modify, List.getElem?_map, List.getElem?_map, List.range_succ]
  by_cases hi : i < t.rows.length
  · rw [List.getElem?_range hi]
    by_cases e : t.step c a = i
    · subst e
      simp [List.range_succ]
    · simp [List.range_succ, e]
  · rw [List.getElem?_eq_none (by simpa using hi)]
    rfl
theorem intoC_fold (t : T) (a : Nat) : ∀ c, (List.range c).foldl (fun V s => V.modify (t.step s a) (· ++ [s])) (intoC t a 0) = intoC t a c
  | 0 => rfl
  | c + 1 => by
    rw [List.range_succ, List.foldl_append, intoC_fold t a c]
    exact intoC_succ t a c
theorem intoC_len (t : T) (a c : Nat) : (intoC t a c).length = t.rows.length := by simp [intoC]
theorem intoC_item (t : T) (a c : Nat) : ∀ l ∈ intoC t a c, l.length ≤ c := fun l hl => by
  unfold intoC at hl
  obtain ⟨p, _, rfl⟩ := List.mem_map.mp hl
  exact Nat.le_trans (List.length_filter_le _ _) (by simp)
theorem into_letter {t : T} (h : t.Ok) {F : List D} {a : Nat} (ha : a < t.k) (hF : F.length < 1000) (y : D) (x3 x4 : Option D) : ∃ x, b_law_into_3 [some t.enc, some (.lst F), some (nD a), x3, x4] = .nx [some t.enc, some (.lst (F ++ [llD (intoC t a t.rows.length)])), some (nD a), none, x] := by
  obtain ⟨R1, hR⟩ : ∃ R, oIx t.enc (.int 2) = some R ∧ R = .tup (t.rows.map nT) := ⟨_, ixT2, rfl⟩
  obtain ⟨hR, rfl⟩ := hR
  have hn := h.n1
  have hpr : pures (t.rows.map nT) = true := pures_all' pure_nT _
  have hi : iS (eF (bP (b2 oIx (bV 0) (bC (.int 2))))) [some t.enc, some (.lst F), some (nD a), x3, x4] = .ok (t.rows.map nT, [some t.enc, some (.lst F), some (nD a), x3, x4]) := by
    have : bP (b2 oIx (bV 0) (bC (.int 2))) [some t.enc, some (.lst F), some (nD a), x3, x4] = some (.tup (t.rows.map nT)) := ev_bP (by rw [ev_b2]; exact hR) (by rw [pure_tup]; exact hpr)
    unfold iS
    rw [ev_eF, this]
    show (Res.of ((itemsOf (.tup (t.rows.map nT))).map fun l => (l, _))) = _
    rw [itemsOf_tup hpr]
    rfl
  have hm := lcL_map (bd := bName (pinOf [4]) 4) (et := tYesE) (ee := b_law_into_1) (own := [4]) nT (fun l : List Nat => D.lst (l.map nD)) (fun _ => ([] : List Nat)) (E := [some t.enc, some (.lst F), some (nD a), x3, none]) t.rows (fun r _ => ⟨_, _, [some t.enc, some (.lst F), some (nD a), x3, some (nT r)], rfl, rfl, rfl, rfl⟩) (by unfold LIM; omega)
  have h0 : (t.rows.map fun _ => D.lst (([] : List Nat).map nD)) = (intoC t a 0).map fun l => D.lst (l.map nD) := by
    unfold intoC
    apply List.ext_getElem?
    intro i
    by_cases hi : i < t.rows.length
    · simp [hi]
    · simp [hi]
  have s1 : sAsg (eLc (iS (eF (bP (b2 oIx (bV 0) (bC (.int 2)))))) (bName (pinOf [4]) 4) tYesE b_law_into_1 [4]) (bName pin_law_into 3) [some t.enc, some (.lst F), some (nD a), x3, x4] = .nx (envI t (.lst F) a (intoC t a 0) none) := by
    refine sAsg_eq (d := llD (intoC t a 0)) (E1 := [some t.enc, some (.lst F), some (nD a), x3, none]) ?_ rfl
    unfold eLc
    rw [hi]
    show (Res.bind (lcL (bName (pinOf [4]) 4) tYesE b_law_into_1 [4] (t.rows.map nT) [] [some t.enc, some (.lst F), some (nD a), x3, none]) fun q => Res.ok (D.lst q.1, q.2)) = _
    rw [hm, h0]
    rfl
  have hlen : oLen (.tup (t.rows.map nT)) = some (.int (t.rows.length : Int)) := by simp
  have hr : iR1 (eCons (eF (b1 oLen (b2 oIx (bV 0) (bC (.int 2))))) eNil) (envI t (.lst F) a (intoC t a 0) none) = .ok ((List.range t.rows.length).map nD, envI t (.lst F) a (intoC t a 0) none) := by
    refine iR1_nD ?_ (by omega)
    simp -implicitDefEqProofs [envI, hR, hlen]
  obtain ⟨E', f1, x, f2⟩ := forL_range (bd := bName pin_law_into 4) (b := b_law_into_2) (fun c E => ∃ x, E = envI t (.lst F) a (intoC t a c) x) t.rows.length (fun c hc E hE => by
    obtain ⟨x, rfl⟩ := hE
    refine ⟨_, _, rfl, .inl (into_turn h ha hc (intoC_len t a c) (fun l hl => by have := intoC_item t a c l hl; omega)), some (nD c), ?_⟩
    rw [intoC_succ]) (envI t (.lst F) a (intoC t a 0) none) ⟨none, rfl⟩
  refine ⟨x, ?_⟩
  have s2 : sFor (iR1 (eCons (eF (b1 oLen (b2 oIx (bV 0) (bC (.int 2))))) eNil)) (bName pin_law_into 4) b_law_into_2 (envI t (.lst F) a (intoC t a 0) none) = .nx E' := by
    unfold sFor
    rw [hr]
    exact f1
  have s3 : sDrop (eApp 1 (eMov 3)) (envI t (.lst F) a (intoC t a t.rows.length) x) = .nx [some t.enc, some (.lst (F ++ [llD (intoC t a t.rows.length)])), some (nD a), none, x] := by
    have hl : F.length < LIM := by unfold LIM; omega
    show (Res.sr (if F.length < LIM then Res.ok (D.non, ([some t.enc, some (D.lst F), some (nD a), none, x] : VS.Env).set 1 (some (.lst (F ++ [llD (intoC t a t.rows.length)])))) else .no) fun p => .nx p.2) = _
    rw [if_pos hl]
    rfl
  show sSeq _ _ _ = _
  rw [sSeq_nx s1, sSeq_nx s2, f2]
  exact s3
theorem into_ok {t : T} (h : t.Ok) : f_law_into [t.enc] = .ok (.lst ((List.range t.k).map fun a => llD (intoC t a t.rows.length))) [none] := by
  have hk := h.k1
  obtain ⟨E', f1, x3, x4, x5, f2⟩ := forL_range (bd := bName pin_law_into 2) (b := b_law_into_3) (fun c E => ∃ x3 x4 x5, E = [some t.enc, some (.lst ((List.range c).map fun a => llD (intoC t a t.rows.length))), x3, x4, x5]) t.k (fun c hc E hE => by
    obtain ⟨x3, x4, x5, rfl⟩ := hE
    obtain ⟨x, hx⟩ := into_letter h (F := (List.range c).map fun a => llD (intoC t a t.rows.length)) hc (by simp; omega) (nD c) x4 x5
    refine ⟨_, _, rfl, .inl hx, some (nD c), none, x, ?_⟩
    rw [List.range_succ, List.map_append]
    rfl) [some t.enc, some (.lst []), none, none, none] ⟨none, none, none, rfl⟩
  have hr : iR1 (eCons (eF (bP (b2 oIx (bV 0) (bC (.int 1))))) eNil) [some t.enc, some (.lst []), none, none, none] = .ok ((List.range t.k).map nD, [some t.enc, some (.lst []), none, none, none]) := by
    refine iR1_nD ?_ (by omega)
    have : oIx t.enc (.int 1) = some (nD t.k) := ixT1
    have : bP (b2 oIx (bV 0) (bC (.int 1))) [some t.enc, some (.lst []), none, none, none] = some (nD t.k) := ev_bP (by rw [ev_b2]; exact this) rfl
    rw [ev_eCons, ev_eF, this]
    rfl
  have s2 : sFor (iR1 (eCons (eF (bP (b2 oIx (bV 0) (bC (.int 1))))) eNil)) (bName pin_law_into 2) b_law_into_3 [some t.enc, some (.lst []), none, none, none] = .nx E' := by
    unfold sFor
    rw [hr]
    exact f1
  unfold f_law_into
  rw [mkF_eq (np := 1) rfl]
  have s1 : sAsg (eF (fLst fNil)) (bName pin_law_into 1) [some t.enc, none, none, none, none] = .nx [some t.enc, some (.lst []), none, none, none] := rfl
  show frOf pin_law_into 1 (sSeq (sAsg (eF (fLst fNil)) (bName pin_law_into 1)) (sSeq (sFor (iR1 (eCons (eF (bP (b2 oIx (bV 0) (bC (.int 1))))) eNil)) (bName pin_law_into 2) b_law_into_3) (sRet (eMov 1))) [some t.enc, none, none, none, none]) = _
  rw [sSeq_nx s1, sSeq_nx s2, f2]
  rfl
end K91

set_option maxRecDepth 100000
set_option maxHeartbeats 2000000
namespace K91
open PySem L2 VS
def lk (b : Bool) : Nat := if b then 1 else 0
theorem isparted_ok (a b : List Nat) (hb : b.length ≤ 1000) (lack : Bool) : f_law_is_parted [nT a, nT b, .bl lack] = .ok (.bl (ptOf (lk lack) a b)) [none, none, none] := by
  unfold f_law_is_parted
  rw [mkF_eq (np := 3) rfl]
  cases lack with
  | false =>
    have e : oNe (nT a) (nT b) = some (.bl (unl a b)) := by
      unfold oNe nT
      rw [eqD_nT]; rfl
    have s1 : sIf (pT (pB (bV 2))) (sRet (e2 oGt (e1 oLen (eLc (iS (eF (bP (bV 1)))) (bName (pinOf [3]) 3) (pT (pB (b2 (oIn true) (bV 3) (bV 0)))) b_law_is_parted_2 [3])) (eF (bC (.int 0))))) sNil [some (nT a), some (nT b), some (.bl false), none] = .nx [some (nT a), some (nT b), some (.bl false), none] := rfl
    show frOf pin_law_is_parted 3 (sSeq _ (sRet (eF (b2 oNe (bV 0) (bV 1)))) [some (nT a), some (nT b), some (.bl false), none]) = _
    rw [sSeq_nx s1, ev_sRet, ev_eF, ev_b2]
    show frOf pin_law_is_parted 3 ((Res.of ((oNe (nT a) (nT b)).map fun d => (d, _))).sr _) = _
    rw [e]
    rfl
  | true =>
    have hm := lcL_pure (bd := bName (pinOf [3]) 3) (et := pT (pB (b2 (oIn true) (bV 3) (bV 0)))) (ee := b_law_is_parted_2) (own := [3]) nD nD (fun q => !a.contains q) id (E := [some (nT a), some (nT b), some (.bl true), none]) b [] (fun q _ => by
      have h0 := oIn_tup true q a
      simp only [if_true] at h0
      refine ⟨[some (nT a), some (nT b), some (.bl true), some (nD q)], [some (nT a), some (nT b), some (.bl true), some (nD q)], rfl, ?_, fun _ => ⟨_, rfl, rfl⟩, fun _ => rfl⟩
      show Res.of (((oIn true (nD q) (.tup (a.map nD))).bind pbD |> fun x => (pB (b2 (oIn true) (bV 3) (bV 0)) [some (nT a), some (nT b), some (.bl true), some (nD q)])).map fun t => (t, _)) = _
      rw [ev_pB, ev_b2]
      show Res.of (((oIn true (nD q) (.tup (a.map nD))).bind pbD).map fun t => (t, _)) = _
      rw [h0]
      rfl) (by simp [LIM]; omega)
    have hi : iS (eF (bP (bV 1))) [some (nT a), some (nT b), some (.bl true), none] = .ok (b.map nD, [some (nT a), some (nT b), some (.bl true), none]) := by
      have h1 : bP (bV 1) [some (nT a), some (nT b), some (.bl true), none] = some (nT b) := ev_bP rfl (pure_nT b)
      unfold iS
      rw [ev_eF, h1]
      show Res.of ((itemsOf (.tup (b.map nD))).map fun l => (l, _)) = _
      rw [itemsOf_tup (pures_nD b)]
      rfl
    have hlc : eLc (iS (eF (bP (bV 1)))) (bName (pinOf [3]) 3) (pT (pB (b2 (oIn true) (bV 3) (bV 0)))) b_law_is_parted_2 [3] [some (nT a), some (nT b), some (.bl true), none] = .ok (.lst ((b.filter fun q => !a.contains q).map nD), [some (nT a), some (nT b), some (.bl true), none]) := by
      unfold eLc
      rw [hi]
      show Res.bind (lcL (bName (pinOf [3]) 3) (pT (pB (b2 (oIn true) (bV 3) (bV 0)))) b_law_is_parted_2 [3] (b.map nD) [] [some (nT a), some (nT b), some (.bl true), none]) (fun q => Res.ok (D.lst q.1, q.2)) = _
      rw [hm]
      rfl
    have hg : e2 oGt (e1 oLen (eLc (iS (eF (bP (bV 1)))) (bName (pinOf [3]) 3) (pT (pB (b2 (oIn true) (bV 3) (bV 0)))) b_law_is_parted_2 [3])) (eF (bC (.int 0))) [some (nT a), some (nT b), some (.bl true), none] = .ok (.bl (lck a b), [some (nT a), some (nT b), some (.bl true), none]) := by
      rw [ev_e2, ev_e1, hlc]
      show Res.ok (D.bl (decide ((0 : Int) < ((b.filter fun q => !a.contains q).map nD).length)), _) = _
      congr 3
      unfold lck
      cases h : b.any fun q => !a.contains q with
      | true =>
        obtain ⟨x, hx, hq⟩ := List.any_eq_true.mp h
        have : x ∈ b.filter fun q => !a.contains q := List.mem_filter.mpr ⟨hx, hq⟩
        have := List.length_pos_of_mem this
        rw [List.length_map]
        exact decide_eq_true (by omega)
      | false =>
        have : b.filter (fun q => !a.contains q) = [] := by
          rw [List.filter_eq_nil_iff]
          intro x hx
          have := List.any_eq_false.mp h x hx
          exact this
        rw [this]
        rfl
    show frOf pin_law_is_parted 3 ((sIf (pT (pB (bV 2))) (sRet _) sNil [some (nT a), some (nT b), some (.bl true), none]).bind _) = _
    show frOf pin_law_is_parted 3 ((sRet (e2 oGt (e1 oLen (eLc (iS (eF (bP (bV 1)))) (bName (pinOf [3]) 3) (pT (pB (b2 (oIn true) (bV 3) (bV 0)))) b_law_is_parted_2 [3])) (eF (bC (.int 0)))) [some (nT a), some (nT b), some (.bl true), none]).bind _) = _
    rw [ev_sRet, hg]
    rfl
end K91

set_option maxRecDepth 100000
set_option maxHeartbeats 2000000
namespace K91
open PySem L2 VS
theorem nD_inj {a b : Nat} (h : nD a = nD b) : a = b := by
  unfold nD at h
  injection h with h
  omega
theorem iR1_at {e : VS.Env → Option D} {E : VS.Env} {n : Nat} (h : e E = some (nD n)) (hn : n ≤ 1000000) : iR1 (eCons (eF e) eNil) E = .ok ((List.range n).map nD, E) := by
  refine iR1_nD ?_ hn
  rw [ev_eCons, ev_eF, h]
  rfl
/-- one row of a password: letter by letter -/
theorem pw_row (d : D) (hd : St d) {k : Nat} (hk : k ≤ 8) {row : List Nat} {at_ : Nat} (hat : at_ < row.length) (hrl : row.length ≤ 1000) (last rows : D) (x6 : Option D) :
    ∃ (r : List Nat) (d' : D), (e1 oTupleP (eLc (iR1 (eCons (eF (bP (bV 1))) eNil)) (bName (pinOf [6]) 6) tYesE b_law_password_1 [6])) [some d, some (nD k), some (nT row), some last, some rows, some (nD at_), x6] = .ok (nT r, [some d', some (nD k), some (nT row), some last, some rows, some (nD at_), none]) ∧ St d' ∧ r.length = k ∧
      ∀ (a : Nat) (v : Nat), r[a]? = some v → if a = row[at_] then v = at_ + 1 else v ≤ at_ := by
  have hx : oIx (nT row) (nD at_) = some (nD row[at_]) := ixT (n := at_) (by simp [hat])
  obtain ⟨xs, E', h1, ⟨d', h2, h3⟩, h4, h5⟩ := lcL_inv (bd := bName (pinOf [6]) 6) (et := tYesE) (ee := b_law_password_1) (own := [6]) nD (fun E => ∃ d, St d ∧ E = [some d, some (nD k), some (nT row), some last, some rows, some (nD at_), none]) (fun y v => ∀ a, y = nD a → if a = row[at_] then v = at_ + 1 else v ≤ at_) ((List.range k).map nD) [] [some d, some (nD k), some (nT row), some last, some rows, some (nD at_), none] ⟨d, hd, rfl⟩ (fun y hy E hE => by
    obtain ⟨d, hd, rfl⟩ := hE
    obtain ⟨a, _, rfl⟩ := List.mem_map.mp hy
    have ht : (b2 oEq (bV 6) (b2 oIx (bV 2) (bV 5))) [some d, some (nD k), some (nT row), some last, some rows, some (nD at_), some (nD a)] = some (.bl (decide (a = row[at_]))) := by
      rw [ev_b2]
      show ((oIx (nT row) (nD at_)).bind fun q => oEq (nD a) q) = _
      rw [hx]
      exact oEq_nD _ _
    have hadd : (b2 oAdd (bV 5) (bC (.int 1))) [some d, some (nD k), some (nT row), some last, some rows, some (nD at_), some (nD a)] = some (nD (at_ + 1)) := rfl
    by_cases e : a = row[at_]
    · refine ⟨[some d, some (nD k), some (nT row), some last, some rows, some (nD at_), some (nD a)], [some d, some (nD k), some (nT row), some last, some rows, some (nD at_), some (nD a)], [some d, some (nD k), some (nT row), some last, some rows, some (nD at_), some (nD a)], at_ + 1, rfl, rfl, ?_, fun b hb => ?_, ⟨d, hd, rfl⟩⟩
      · show eIf _ _ _ _ = _
        rw [ev_eIf, ev_pT, ev_pB, ht, decide_eq_true e]
        simp only [Option.bind_some, pbD_bl, Option.map_some, ro_some, rb_ok, if_true]
        rw [ev_eF, hadd]
        rfl
      · have := nD_inj hb
        subst this
        rw [if_pos e]
    · obtain ⟨v, d', e1, s, l⟩ := drawI d (at_ + 1 : Nat) hd (by omega) (by omega)
      refine ⟨[some d, some (nD k), some (nT row), some last, some rows, some (nD at_), some (nD a)], [some d, some (nD k), some (nT row), some last, some rows, some (nD at_), some (nD a)], [some d', some (nD k), some (nT row), some last, some rows, some (nD at_), some (nD a)], v, rfl, rfl, ?_, fun b hb => ?_, ⟨d', s, rfl⟩⟩
      · show eIf _ _ _ _ = _
        rw [ev_eIf, ev_pT, ev_pB, ht, decide_eq_false e]
        simp only [Option.bind_some, pbD_bl, Option.map_some, ro_some, rb_ok, Bool.false_eq_true, if_false]
        exact eCall_eq (as := [.l 0, .o (nD (at_ + 1))]) (E1 := [some d, some (nD k), some (nT row), some last, some rows, some (nD at_), some (nD a)]) rfl rfl rfl e1
      · have := nD_inj hb
        subst this
        rw [if_neg e]
        omega) (by simp [LIM]; omega)
  refine ⟨xs, d', ?_, h2, by simpa using h4, fun a v hv => ?_⟩
  · have hr : iR1 (eCons (eF (bP (bV 1))) eNil) [some d, some (nD k), some (nT row), some last, some rows, some (nD at_), x6] = .ok ((List.range k).map nD, [some d, some (nD k), some (nT row), some last, some rows, some (nD at_), x6]) := iR1_at rfl (by omega)
    rw [ev_e1]
    unfold eLc
    rw [hr]
    show (Res.bind (Res.bind (lcL (bName (pinOf [6]) 6) tYesE b_law_password_1 [6] ((List.range k).map nD) [] [some d, some (nD k), some (nT row), some last, some rows, some (nD at_), none]) fun q => Res.ok (D.lst q.1, q.2)) fun p => Res.of ((oTupleP p.1).map fun z => (z, p.2))) = _
    rw [h1, h3]
    show Res.of ((oTupleP (.lst ([] ++ xs.map nD))).map fun z => (z, _)) = _
    rw [List.nil_append, tupP (pures_nD xs)]
    rfl
  · have al : a < k := by
      have := (List.getElem?_eq_some_iff.mp hv).1
      simpa [h4] using this
    exact h5 a (nD a) v (by simp [al]) hv a rfl
end K91

set_option maxRecDepth 100000
set_option maxHeartbeats 2000000
namespace K91
open PySem L2 VS
def PwRow (k : Nat) (row : List Nat) (i : Nat) (r : List Nat) : Prop := r.length = k ∧ ∀ (h : i < row.length) (a v : Nat), r[a]? = some v → if a = row[i] then v = i + 1 else v ≤ i
theorem pw_loop (d : D) (hd : St d) {k : Nat} (hk : k ≤ 8) {row : List Nat} (hrl : row.length ≤ 1000) (last : D) :
    ∃ (rs : List (List Nat)) (d' : D) (x5 x6 : Option D), sFor (iR1 (eCons (eF (b1 oLen (bV 2))) eNil)) (bName pin_law_password 5) b_law_password_2 [some d, some (nD k), some (nT row), some last, some (.lst []), none, none] = .nx [some d', some (nD k), some (nT row), some last, some (.lst (rs.map nT)), x5, x6] ∧ St d' ∧ rs.length = row.length ∧ ∀ (i : Nat) r, rs[i]? = some r → PwRow k row i r := by
  obtain ⟨E', f1, rs, d', x5, x6, f2, f3, f4, f5⟩ := forL_range (bd := bName pin_law_password 5) (b := b_law_password_2) (fun c E => ∃ (rs : List (List Nat)) (d' : D) (x5 x6 : Option D), E = [some d', some (nD k), some (nT row), some last, some (.lst (rs.map nT)), x5, x6] ∧ St d' ∧ rs.length = c ∧ ∀ (i : Nat) r, rs[i]? = some r → PwRow k row i r) row.length (fun c hc E hE => by
    obtain ⟨rs, d, x5, x6, rfl, hd, hl, hr⟩ := hE
    obtain ⟨r, d', e, s, l, h⟩ := pw_row d hd hk hc hrl last (.lst (rs.map nT)) x6
    have hlt : (rs.map nT).length < LIM := by rw [List.length_map]; unfold LIM; omega
    have e2 : eApp 4 (e1 oTupleP (eLc (iR1 (eCons (eF (bP (bV 1))) eNil)) (bName (pinOf [6]) 6) tYesE b_law_password_1 [6])) [some d, some (nD k), some (nT row), some last, some (.lst (rs.map nT)), some (nD c), x6] = .ok (.non, [some d', some (nD k), some (nT row), some last, some (.lst (rs.map nT ++ [nT r])), some (nD c), none]) := by
      unfold eApp
      show ((e1 oTupleP (eLc (iR1 (eCons (eF (bP (bV 1))) eNil)) (bName (pinOf [6]) 6) tYesE b_law_password_1 [6])) [some d, some (nD k), some (nT row), some last, some (.lst (rs.map nT)), some (nD c), x6]).bind (fun p => match gv p.2 4 with
        | some (.lst l) => if l.length < LIM then Res.ok (D.non, p.2.set 4 (some (.lst (l ++ [p.1])))) else .no
        | _ => .no) = _
      rw [e]
      show (if (rs.map nT).length < LIM then Res.ok (D.non, ([some d', some (nD k), some (nT row), some last, some (.lst (rs.map nT)), some (nD c), none] : VS.Env).set 4 (some (.lst (rs.map nT ++ [nT r])))) else .no) = _
      rw [if_pos hlt]
      rfl
    refine ⟨_, _, rfl, .inl (show sDrop _ _ = _ from ?_), rs ++ [r], d', some (nD c), none, rfl, s, by simp [hl], fun i q hq => ?_⟩
    · rw [ev_sDrop]
      show ((eApp 4 (e1 oTupleP (eLc (iR1 (eCons (eF (bP (bV 1))) eNil)) (bName (pinOf [6]) 6) tYesE b_law_password_1 [6])) [some d, some (nD k), some (nT row), some last, some (.lst (rs.map nT)), some (nD c), x6]).sr fun p => .nx p.2) = _
      rw [e2, List.map_append]
      rfl
    · by_cases hi : i < rs.length
      · rw [List.getElem?_append_left hi] at hq
        exact hr i q hq
      · rw [List.getElem?_append_right (by omega)] at hq
        have hi2 : i = c := by
          have := (List.getElem?_eq_some_iff.mp hq).1
          simp at this
          omega
        subst hi2
        rw [hl, Nat.sub_self] at hq
        simp at hq
        subst hq
        exact ⟨l, fun _ a v hv => h a v hv⟩) [some d, some (nD k), some (nT row), some last, some (.lst []), none, none] ⟨[], d, none, none, rfl, hd, rfl, fun i r h => by simp at h⟩
  refine ⟨rs, d', x5, x6, ?_, f3, f4, f5⟩
  have hr : iR1 (eCons (eF (b1 oLen (bV 2))) eNil) [some d, some (nD k), some (nT row), some last, some (.lst []), none, none] = .ok ((List.range row.length).map nD, [some d, some (nD k), some (nT row), some last, some (.lst []), none, none]) := iR1_at (show oLen (.tup (row.map nD)) = some (nD row.length) by simp [nD]) (by omega)
  unfold sFor
  rw [hr]
  show forL _ _ _ _ = _
  rw [f1, f2]
end K91

set_option maxRecDepth 100000
set_option maxHeartbeats 4000000
namespace VS
open PySem L2
/-! ### what is wanted of a run: rules, step by step -/
def OW {α : Type} (r : Option α) (Q : α → Prop) : Prop := ∃ a, r = some a ∧ Q a
def RW {α : Type} (r : Res (α × Env)) (Q : α → Env → Prop) (X : ExcV → Env → Prop) : Prop := (∃ a E, r = .ok (a, E) ∧ Q a E) ∨ ∃ x E, r = .exc x E ∧ X x E
def SW (r : SR) (N : Env → Prop) (T : D → Env → Prop) (B C : Env → Prop) (X : ExcV → Env → Prop) : Prop :=
  (∃ E, r = .nx E ∧ N E) ∨ (∃ d E, r = .rt d E ∧ T d E) ∨ (∃ E, r = .bk E ∧ B E) ∨ (∃ E, r = .ct E ∧ C E) ∨ ∃ x E, r = .exc x E ∧ X x E
def FW (r : FR) (Q : D → List (Option D) → Prop) (X : ExcV → List (Option D) → Prop) : Prop := (∃ d o, r = .ok d o ∧ Q d o) ∨ ∃ x o, r = .exc x o ∧ X x o
section
variable {α β : Type} {E E1 E2 : Env} {i : Nat} {a b d : D} {N : Env → Prop} {T : D → Env → Prop} {B C : Env → Prop} {X : ExcV → Env → Prop}
theorem OW_some {x : α} {Q : α → Prop} (q : Q x) : OW (some x) Q := ⟨x, rfl, q⟩
theorem OW_eq {r : Option α} {x : α} {Q : α → Prop} (h : r = some x) (q : Q x) : OW r Q := ⟨x, h, q⟩
theorem OW_out {r : Option α} {Q : α → Prop} (h : OW r Q) : ∃ x, r = some x ∧ Q x := h
theorem OW_bind {r : Option α} {k : α → Option β} {Q : β → Prop} (h : OW r fun x => OW (k x) Q) : OW (r.bind k) Q := by
  obtain ⟨x, rfl, h⟩ := h
  exact h
theorem OW_map {r : Option α} {k : α → β} {Q : β → Prop} (h : OW r fun x => Q (k x)) : OW (r.map k) Q := by
  obtain ⟨x, rfl, h⟩ := h
  exact ⟨_, rfl, h⟩
theorem OW_mono {r : Option α} {Q Q' : α → Prop} (h : OW r Q) (k : ∀ x, Q x → Q' x) : OW r Q' := by
  obtain ⟨x, rfl, h⟩ := h
  exact ⟨_, rfl, k _ h⟩
theorem RW_ok {x : α} {Q : α → Env → Prop} (q : Q x E) : RW (.ok (x, E)) Q X := .inl ⟨_, _, rfl, q⟩
theorem RW_exc {x : ExcV} {Q : α → Env → Prop} (q : X x E) : RW (.exc x E) Q X := .inr ⟨_, _, rfl, q⟩
theorem RW_eq {r : Res (α × Env)} {x : α} {Q : α → Env → Prop} (h : r = .ok (x, E)) (q : Q x E) : RW r Q X := .inl ⟨_, _, h, q⟩
theorem RW_bind {r : Res (α × Env)} {k : α × Env → Res (β × Env)} {Q : β → Env → Prop} (h : RW r (fun x E => RW (k (x, E)) Q X) X) : RW (r.bind k) Q X := by
  rcases h with ⟨x, E, rfl, h⟩ | ⟨x, E, rfl, h⟩
  · exact h
  · exact RW_exc h
theorem RW_of {r : Option (α × Env)} {Q : α → Env → Prop} (h : OW r fun p => Q p.1 p.2) : RW (Res.of r) Q X := by
  obtain ⟨x, rfl, h⟩ := h
  exact RW_ok (x := x.1) (E := x.2) h
theorem RW_out {r : Res (α × Env)} {Q : α → Env → Prop} (h : RW r Q fun _ _ => False) : ∃ x E, r = .ok (x, E) ∧ Q x E := by
  rcases h with h | ⟨_, _, _, h⟩
  · exact h
  · exact h.elim
theorem RW_mono {r : Res (α × Env)} {Q Q' : α → Env → Prop} {X X' : ExcV → Env → Prop} (h : RW r Q X) (k : ∀ x E, Q x E → Q' x E) (k2 : ∀ x E, X x E → X' x E) : RW r Q' X' := by
  rcases h with ⟨x, E, rfl, h⟩ | ⟨x, E, rfl, h⟩
  · exact RW_ok (k _ _ h)
  · exact RW_exc (k2 _ _ h)
theorem SWnx (q : N E) : SW (.nx E) N T B C X := .inl ⟨_, rfl, q⟩
theorem SWrt {d : D} (q : T d E) : SW (.rt d E) N T B C X := .inr (.inl ⟨_, _, rfl, q⟩)
theorem SWbk (q : B E) : SW (.bk E) N T B C X := .inr (.inr (.inl ⟨_, rfl, q⟩))
theorem SWct (q : C E) : SW (.ct E) N T B C X := .inr (.inr (.inr (.inl ⟨_, rfl, q⟩)))
theorem SWexc {x : ExcV} (q : X x E) : SW (.exc x E) N T B C X := .inr (.inr (.inr (.inr ⟨_, _, rfl, q⟩)))
theorem SWc {P : Prop} {r : SR} (h : SW r N T B C X) (h1 : ∀ E, r = .nx E → N E → P) (h2 : ∀ d E, r = .rt d E → T d E → P) (h3 : ∀ E, r = .bk E → B E → P) (h4 : ∀ E, r = .ct E → C E → P) (h5 : ∀ x E, r = .exc x E → X x E → P) : P := by
  rcases h with ⟨E, e, h⟩ | ⟨d, E, e, h⟩ | ⟨E, e, h⟩ | ⟨E, e, h⟩ | ⟨x, E, e, h⟩
  · exact h1 _ e h
  · exact h2 _ _ e h
  · exact h3 _ e h
  · exact h4 _ e h
  · exact h5 _ _ e h
theorem SW_sr {r : Res (α × Env)} {k : α × Env → SR} (h : RW r (fun x E => SW (k (x, E)) N T B C X) X) : SW (r.sr k) N T B C X := by
  rcases h with ⟨x, E, rfl, h⟩ | ⟨x, E, rfl, h⟩
  · exact h
  · exact SWexc h
theorem SW_eq {r r' : SR} (h : r = r') (q : SW r' N T B C X) : SW r N T B C X := by rw [h]; exact q
theorem SW_mono {r : SR} {N' : Env → Prop} {T' : D → Env → Prop} {B' C' : Env → Prop} {X' : ExcV → Env → Prop} (h : SW r N T B C X) (h1 : ∀ E, N E → N' E) (h2 : ∀ d E, T d E → T' d E) (h3 : ∀ E, B E → B' E) (h4 : ∀ E, C E → C' E) (h5 : ∀ x E, X x E → X' x E) : SW r N' T' B' C' X' :=
  SWc h (fun E e q => e ▸ SWnx (h1 _ q)) (fun d E e q => e ▸ SWrt (h2 _ _ q)) (fun E e q => e ▸ SWbk (h3 _ q)) (fun E e q => e ▸ SWct (h4 _ q)) (fun x E e q => e ▸ SWexc (h5 _ _ q))
theorem SW_loop {r : SR} {k : Env → SR} (h : SW r (fun E => SW (k E) N T B C X) T N (fun E => SW (k E) N T B C X) X) : SW (loopK r k) N T B C X :=
  SWc h (fun E e q => e ▸ q) (fun d E e q => e ▸ SWrt q) (fun E e q => e ▸ SWnx q) (fun E e q => e ▸ q) (fun x E e q => e ▸ SWexc q)
theorem FWok {d : D} {o : List (Option D)} {Q : D → List (Option D) → Prop} {XF : ExcV → List (Option D) → Prop} (q : Q d o) : FW (.ok d o) Q XF := .inl ⟨_, _, rfl, q⟩
theorem FWexc {x : ExcV} {o : List (Option D)} {Q : D → List (Option D) → Prop} {XF : ExcV → List (Option D) → Prop} (q : XF x o) : FW (.exc x o) Q XF := .inr ⟨_, _, rfl, q⟩
theorem FW_out {r : FR} {QF : D → List (Option D) → Prop} (h : FW r QF fun _ _ => False) : ∃ d o, r = .ok d o ∧ QF d o := by
  rcases h with h | ⟨_, _, _, h⟩
  · exact h
  · exact h.elim
/-! borrowed and pure -/
variable {Q : D → Prop} {QE : D → Env → Prop}
theorem OW_bV (h : gv E i = some d) (q : Q d) : OW (bV i E) Q := OW_eq h q
theorem OW_bC (q : Q a) : OW (bC a E) Q := OW_some q
theorem OW_bP {e : Env → Option D} (h : OW (e E) fun d => d.pure = true ∧ Q d) : OW (bP e E) Q := by
  obtain ⟨d, h1, h2, h3⟩ := OW_out h
  exact OW_eq (ev_bP h1 h2) h3
theorem OW_b2 {o : D → D → Option D} {x y : Env → Option D} (h : OW (x E) fun p => OW (y E) fun q => OW (o p q) Q) : OW (b2 o x y E) Q := OW_bind (OW_mono h fun p h => OW_bind h)
theorem OW_b1 {o : D → Option D} {x : Env → Option D} (h : OW (x E) fun p => OW (o p) Q) : OW (b1 o x E) Q := OW_bind h
theorem OW_fNil {Q : List D → Prop} (q : Q []) : OW (fNil E) Q := OW_some q
theorem OW_fCons {Q : List D → Prop} {x : Env → Option D} {r : Env → Option (List D)} (h : OW (x E) fun d => OW (r E) fun l => Q (d :: l)) : OW (fCons x r E) Q := OW_bind (OW_mono h fun d h => OW_bind (OW_mono h fun l h => OW_some h))
theorem OW_fTup {x : Env → Option (List D)} (h : OW (x E) fun l => Q (.tup l)) : OW (fTup x E) Q := OW_map h
theorem OW_fLst {x : Env → Option (List D)} (h : OW (x E) fun l => Q (.lst l)) : OW (fLst x E) Q := OW_map h
theorem OW_fIf {c : Env → Option Bool} {x y : Env → Option D} (h : OW (c E) fun t => (t = true → OW (x E) Q) ∧ (t = false → OW (y E) Q)) : OW (fIf c x y E) Q := OW_bind (OW_mono h fun t h => by cases t with
  | true => exact h.1 rfl
  | false => exact h.2 rfl)
theorem OW_fAnd {x y : Env → Option D} (h : OW (x E) fun d => ∃ t, d = .bl t ∧ (t = true → OW (y E) Q) ∧ (t = false → Q (.bl false))) : OW (fAnd x y E) Q := by
  obtain ⟨d, e, t, rfl, h1, h2⟩ := OW_out h
  unfold fAnd
  rw [e]
  cases t with
  | true => exact h1 rfl
  | false => exact OW_some (h2 rfl)
theorem OW_fOr {x y : Env → Option D} (h : OW (x E) fun d => ∃ t, d = .bl t ∧ (t = true → Q (.bl true)) ∧ (t = false → OW (y E) Q)) : OW (fOr x y E) Q := by
  obtain ⟨d, e, t, rfl, h1, h2⟩ := OW_out h
  unfold fOr
  rw [e]
  cases t with
  | true => exact OW_some (h1 rfl)
  | false => exact h2 rfl
theorem OW_fNot {x : Env → Option D} (h : OW (x E) fun d => ∃ t, d = .bl t ∧ Q (.bl (!t))) : OW (fNot x E) Q := by
  obtain ⟨d, e, t, rfl, h1⟩ := OW_out h
  unfold fNot
  rw [e]
  exact OW_some h1
theorem OW_pB {x : Env → Option D} {Q : Bool → Prop} (h : OW (x E) fun d => ∃ t, d = .bl t ∧ Q t) : OW (pB x E) Q := by
  obtain ⟨d, e, t, rfl, h1⟩ := OW_out h
  unfold pB
  rw [e]
  exact OW_some h1
theorem OW_pNot {c : Env → Option Bool} {Q : Bool → Prop} (h : OW (c E) fun t => Q (!t)) : OW (pNot c E) Q := OW_map h
theorem OW_fCall {f : List D → FR} {x : Env → Option (List D)} (h : OW (x E) fun ds => pures ds = true ∧ FW (f ds) (fun d _ => Q d) fun _ _ => False) : OW (fCall f x E) Q := by
  obtain ⟨ds, e, hp, h1⟩ := OW_out h
  unfold fCall
  rw [e]
  simp only [Option.bind_some, hp, if_true]
  cases hf : f ds with
  | ok d o => rw [hf] at h1; (obtain ⟨d, o, e, h1⟩ := FW_out h1; cases e; exact OW_some h1)
  | exc x o => rw [hf] at h1; (obtain ⟨d, o, e, h1⟩ := FW_out h1; cases e)
  | no => rw [hf] at h1; (obtain ⟨d, o, e, h1⟩ := FW_out h1; cases e)
/-! with effects -/
theorem RW_eF {e : Env → Option D} (h : OW (e E) fun d => QE d E) : RW (eF e E) QE X := RW_of (OW_map h)
theorem RW_eMov (h : gv E i = some d) (hs : E.set i none = E1) (q : QE d E1) : RW (eMov i E) QE X := RW_of (OW_map (OW_eq h (hs ▸ q)))
theorem RW_e2 {o : D → D → Option D} {x y : Env → Res (D × Env)} (h : RW (x E) (fun p E1 => RW (y E1) (fun q E2 => OW (o p q) fun z => QE z E2) X) X) : RW (e2 o x y E) QE X :=
  RW_bind (RW_mono h (fun p E1 h => RW_bind (RW_mono h (fun q E2 h => RW_of (OW_map h)) fun _ _ z => z)) fun _ _ z => z)
theorem RW_e1 {o : D → Option D} {x : Env → Res (D × Env)} (h : RW (x E) (fun p E1 => OW (o p) fun z => QE z E1) X) : RW (e1 o x E) QE X :=
  RW_bind (RW_mono h (fun p E1 h => RW_of (OW_map h)) fun _ _ z => z)
theorem RW_eNil {Q : List D → Env → Prop} (q : Q [] E) : RW (eNil E) Q X := RW_ok q
theorem RW_eCons {Q : List D → Env → Prop} {x : Env → Res (D × Env)} {r : Env → Res (List D × Env)} (h : RW (x E) (fun d E1 => RW (r E1) (fun l E2 => Q (d :: l) E2) X) X) : RW (eCons x r E) Q X :=
  RW_bind (RW_mono h (fun p E1 h => RW_bind (RW_mono h (fun q E2 h => RW_ok h) fun _ _ z => z)) fun _ _ z => z)
theorem RW_eTup {x : Env → Res (List D × Env)} (h : RW (x E) (fun l E1 => QE (.tup l) E1) X) : RW (eTup x E) QE X := RW_bind (RW_mono h (fun p E1 h => RW_ok h) fun _ _ z => z)
theorem RW_eLst {x : Env → Res (List D × Env)} (h : RW (x E) (fun l E1 => QE (.lst l) E1) X) : RW (eLst x E) QE X := RW_bind (RW_mono h (fun p E1 h => RW_ok h) fun _ _ z => z)
theorem RW_eIf {c : Env → Res (Bool × Env)} {x y : Env → Res (D × Env)} (h : RW (c E) (fun t E1 => (t = true → RW (x E1) QE X) ∧ (t = false → RW (y E1) QE X)) X) : RW (eIf c x y E) QE X :=
  RW_bind (RW_mono h (fun t E1 h => by cases t with
  | true => exact h.1 rfl
  | false => exact h.2 rfl) fun _ _ z => z)
theorem RW_pT {c : Env → Option Bool} {Q : Bool → Env → Prop} (h : OW (c E) fun t => Q t E) : RW (pT c E) Q X := RW_of (OW_map h)
theorem RW_pE {x : Env → Res (D × Env)} {Q : Bool → Env → Prop} (h : RW (x E) (fun d E1 => ∃ t, d = .bl t ∧ Q t E1) X) : RW (pE x E) Q X :=
  RW_bind (RW_mono h (fun d E1 h => by
    obtain ⟨t, rfl, h⟩ := h
    exact RW_ok h) fun _ _ z => z)
theorem RW_pNotE {c : Env → Res (Bool × Env)} {Q : Bool → Env → Prop} (h : RW (c E) (fun t E1 => Q (!t) E1) X) : RW (pNotE c E) Q X := RW_bind (RW_mono h (fun p E1 h => RW_ok h) fun _ _ z => z)
theorem RW_pAnd {x y : Env → Res (Bool × Env)} {Q : Bool → Env → Prop} (h : RW (x E) (fun t E1 => (t = true → RW (y E1) Q X) ∧ (t = false → Q false E1)) X) : RW (pAnd x y E) Q X :=
  RW_bind (RW_mono h (fun t E1 h => by cases t with
  | true => exact h.1 rfl
  | false => exact RW_ok (h.2 rfl)) fun _ _ z => z)
theorem RW_pOr {x y : Env → Res (Bool × Env)} {Q : Bool → Env → Prop} (h : RW (x E) (fun t E1 => (t = true → Q true E1) ∧ (t = false → RW (y E1) Q X)) X) : RW (pOr x y E) Q X :=
  RW_bind (RW_mono h (fun t E1 h => by cases t with
  | true => exact RW_ok (h.1 rfl)
  | false => exact h.2 rfl) fun _ _ z => z)
theorem RW_tYes {Q : Bool → Env → Prop} (q : Q true E) : RW (tYesE E) Q X := RW_ok q
theorem RW_aNil {Q : List Arg → Env → Prop} (q : Q [] E) : RW (aNil E) Q X := RW_ok q
theorem RW_aOwn {Q : List Arg → Env → Prop} {x : Env → Res (D × Env)} {r : Env → Res (List Arg × Env)} (h : RW (x E) (fun d E1 => RW (r E1) (fun l E2 => Q (.o d :: l) E2) X) X) : RW (aOwn x r E) Q X :=
  RW_bind (RW_mono h (fun p E1 h => RW_bind (RW_mono h (fun q E2 h => RW_ok h) fun _ _ z => z)) fun _ _ z => z)
theorem RW_aLend {Q : List Arg → Env → Prop} {r : Env → Res (List Arg × Env)} (hg : gv E i = some d) (h : RW (r E) (fun l E2 => Q (.l i :: l) E2) X) : RW (aLend i r E) Q X := by
  rw [ev_aLend' hg]
  exact RW_bind (RW_mono h (fun q E2 h => RW_ok h) fun _ _ z => z)
theorem RW_eCall {f : List D → FR} {x : Env → Res (List Arg × Env)} (h : RW (x E) (fun as E1 => ∃ ds, valsA as E1 = some ds ∧ uniqA as = true ∧ FW (f ds) (fun d o => QE d (giveA as o (wipeE E1 (lentOf as)))) fun y o => X y (giveA as o (wipeE E1 (lentOf as)))) X) : RW (eCall f x E) QE X := by
  unfold eCall
  refine RW_bind (RW_mono h (fun as E1 h => ?_) fun _ _ z => z)
  obtain ⟨ds, h1, h2, h3⟩ := h
  simp only [h2, if_true, h1]
  cases hf : f ds with
  | ok d o => rw [hf] at h3; (rcases h3 with ⟨_, _, e, h3⟩ | ⟨_, _, e, h3⟩ <;> cases e; exact RW_ok h3)
  | exc x o => rw [hf] at h3; (rcases h3 with ⟨_, _, e, h3⟩ | ⟨_, _, e, h3⟩ <;> cases e; exact RW_exc h3)
  | no => rw [hf] at h3; (rcases h3 with ⟨_, _, e, h3⟩ | ⟨_, _, e, h3⟩ <;> cases e)
theorem RW_eIxV {x : Env → Res (D × Env)} (hg : gv E i = some a) (h : RW (x E) (fun p E1 => ∃ d, gv E1 i = some d ∧ OW (oIx d p) fun z => z.pure = true ∧ QE z E1) X) : RW (eIxV i x E) QE X := by
  unfold eIxV
  rw [hg]
  refine RW_bind (RW_mono h (fun p E1 h => ?_) fun _ _ z => z)
  obtain ⟨d, h1, h2⟩ := h
  obtain ⟨z, h3, h4, h5⟩ := OW_out h2
  refine RW_of ?_
  simp only [h1, Option.bind_some, h3, h4, if_true]
  exact OW_some h5
theorem RW_eApp {x : Env → Res (D × Env)} {l0 : List D} (hg : gv E i = some (.lst l0)) (h : RW (x E) (fun p E1 => ∃ l, gv E1 i = some (.lst l) ∧ l.length < LIM ∧ QE .non (E1.set i (some (.lst (l ++ [p]))))) X) : RW (eApp i x E) QE X := by
  unfold eApp
  rw [hg]
  refine RW_bind (RW_mono h (fun p E1 h => ?_) fun _ _ z => z)
  obtain ⟨l, h1, h2, h3⟩ := h
  simp only [h1, h2, if_true]
  exact RW_ok h3
theorem RW_eMeth {m : List D → D → Option (D × List D)} {x : Env → Res (D × Env)} {l0 : List D} (hg : gv E i = some (.lst l0)) (h : RW (x E) (fun p E1 => ∃ l, gv E1 i = some (.lst l) ∧ OW (m l p) fun z => QE z.1 (E1.set i (some (.lst z.2)))) X) : RW (eMeth i m x E) QE X := by
  unfold eMeth
  rw [hg]
  refine RW_bind (RW_mono h (fun p E1 h => ?_) fun _ _ z => z)
  obtain ⟨l, h1, h2⟩ := h
  obtain ⟨z, h3, h4⟩ := OW_out h2
  simp only [h1, h3]
  exact RW_ok h4
/-! statements -/
theorem SW_seq {x y : Env → SR} (h : SW (x E) (fun E1 => SW (y E1) N T B C X) T B C X) : SW (sSeq x y E) N T B C X := by
  unfold sSeq
  exact SWc h (fun E1 e q => by rw [e]; exact q) (fun d E1 e q => by rw [e]; exact SWrt q) (fun E1 e q => by rw [e]; exact SWbk q) (fun E1 e q => by rw [e]; exact SWct q) (fun y E1 e q => by rw [e]; exact SWexc q)
theorem SW_nil (q : N E) : SW (sNil E) N T B C X := SWnx q
theorem SW_if {c : Env → Res (Bool × Env)} {x y : Env → SR} (h : RW (c E) (fun t E1 => (t = true → SW (x E1) N T B C X) ∧ (t = false → SW (y E1) N T B C X)) X) : SW (sIf c x y E) N T B C X :=
  SW_sr (RW_mono h (fun t E1 h => by cases t with
  | true => exact h.1 rfl
  | false => exact h.2 rfl) fun _ _ z => z)
theorem SW_ret {e : Env → Res (D × Env)} (h : RW (e E) T X) : SW (sRet e E) N T B C X := SW_sr (RW_mono h (fun _ _ h => SWrt h) fun _ _ z => z)
theorem SW_drop {e : Env → Res (D × Env)} (h : RW (e E) (fun _ E1 => N E1) X) : SW (sDrop e E) N T B C X := SW_sr (RW_mono h (fun _ _ h => SWnx h) fun _ _ z => z)
theorem SW_asg {e : Env → Res (D × Env)} {bd : D → Env → Option Env} (h : RW (e E) (fun d E1 => OW (bd d E1) N) X) : SW (sAsg e bd E) N T B C X := SW_sr (RW_mono h (fun d E1 h => by
  obtain ⟨E2, h1, h2⟩ := OW_out h
  show SW (match bd d E1 with
    | some E' => SR.nx E'
    | none => .no) N T B C X
  rw [h1]
  exact SWnx h2) fun _ _ z => z)
theorem SW_par {e : Env → Res (List D × Env)} {bd : List D → Env → Option Env} (h : RW (e E) (fun d E1 => OW (bd d E1) N) X) : SW (sPar e bd E) N T B C X := SW_sr (RW_mono h (fun d E1 h => by
  obtain ⟨E2, h1, h2⟩ := OW_out h
  show SW (match bd d E1 with
    | some E' => SR.nx E'
    | none => .no) N T B C X
  rw [h1]
  exact SWnx h2) fun _ _ z => z)
theorem OW_bName {pin : Pin} {Q : Env → Prop} (hp : pin i = false) (hs : E.set i (some d) = E1) (q : Q E1) : OW (bName pin i d E) Q := by
  subst hs
  unfold bName
  rw [hp]
  exact OW_some q
theorem OW_bNil {Q : Env → Prop} (q : Q E) : OW (bNil [] E) Q := OW_some q
theorem OW_bCons {bd : D → Env → Option Env} {bs : List D → Env → Option Env} {l : List D} {Q : Env → Prop} (h : OW (bd d E) fun E1 => OW (bs l E1) Q) : OW (bCons bd bs (d :: l) E) Q := OW_bind h
theorem OW_bTup {n : Nat} {bs : List D → Env → Option Env} {l : List D} {Q : Env → Prop} (hn : l.length = n) (h : OW (bs l E) Q) : OW (bTup n bs (.tup l) E) Q := by
  show OW (if l.length = n then bs l E else none) Q
  rw [if_pos hn]
  exact h
theorem OW_put2 {pin : Pin} {j : Nat} {Q : Env → Prop} (h1 : pin i = false) (h2 : pin j = false) (hs : (E.set i (some a)).set j (some b) = E1) (q : Q E1) : OW (put2 pin i j [a, b] E) Q := by
  subst hs
  unfold put2
  simp only [bName, h1, h2, Bool.false_eq_true, if_false, Option.bind_some]
  exact OW_some q
/-! loops: an invariant by the number of turns -/
theorem SW_forL {bd : D → Env → Option Env} {b : Env → SR} (I : Nat → Env → Prop) : ∀ (ds : List D) (i : Nat) (E : Env), I i E → (∀ j d E, ds[j]? = some d → I (i + j) E → OW (bd d E) fun E1 => SW (b E1) (I (i + j + 1)) T N (I (i + j + 1)) X) → (∀ E, I (i + ds.length) E → N E) → SW (forL bd b ds E) N T B C X
  | [], i, E, h0, _, hn => SWnx (hn E h0)
  | d :: r, i, E, h0, h, hn => by
    have h1 := h 0 d E rfl h0
    obtain ⟨E1, e1, h1⟩ := OW_out h1
    show SW (match bd d E with | some E1 => loopK (b E1) (forL bd b r) | none => .no) N T B C X
    rw [e1]
    have again : ∀ E2, I (i + 0 + 1) E2 → SW (forL bd b r E2) N T B C X := fun E2 h2 => SW_forL I r (i + 1) E2 h2 (fun j d E hj hI => by
      have := h (j + 1) d E (by simpa using hj) (by rw [show i + (j + 1) = i + 1 + j by omega]; exact hI)
      rw [show i + (j + 1) = i + 1 + j by omega] at this
      exact this) (fun E hE => hn E (by rw [List.length_cons, show i + (r.length + 1) = i + 1 + r.length by omega]; exact hE))
    show SW (loopK (b E1) (forL bd b r)) N T B C X
    exact SW_loop (SW_mono h1 (fun E h => again E h) (fun _ _ h => h) (fun _ h => h) (fun E h => again E h) fun _ _ h => h)
theorem SW_for {it : Env → Res (List D × Env)} {bd : D → Env → Option Env} {b : Env → SR} (I : Nat → Env → Prop) (h : RW (it E) (fun ds E1 => I 0 E1 ∧ (∀ j d E, ds[j]? = some d → I j E → OW (bd d E) fun E1 => SW (b E1) (I (j + 1)) T N (I (j + 1)) X) ∧ (∀ E, I ds.length E → N E)) X) : SW (sFor it bd b E) N T B C X :=
  SW_sr (RW_mono h (fun ds E1 h => SW_forL I ds 0 E1 h.1 (fun j d E hj hI => by
    have := h.2.1 j d E hj (by rw [Nat.zero_add] at hI; exact hI)
    rw [Nat.zero_add]
    exact this) (fun E hE => h.2.2 E (by rw [Nat.zero_add] at hE; exact hE))) fun _ _ z => z)
theorem SW_while {c : Env → Res (Bool × Env)} {b : Env → SR} (I : Nat → Env → Prop) : ∀ (n : Nat) (E : Env), I n E → (∀ m E, m < n → I (m + 1) E → RW (c E) (fun t E1 => (t = true → SW (b E1) (I m) T N (I m) X) ∧ (t = false → N E1)) X) → (∀ E, I 0 E → False) → SW (whileN c b n E) N T B C X
  | 0, E, h0, _, hz => (hz E h0).elim
  | n + 1, E, h0, h, hz => by
    have h1 := h n E (by omega) h0
    show SW ((c E).sr fun p => if p.1 then loopK (b p.2) (whileN c b n) else .nx p.2) N T B C X
    refine SW_sr (RW_mono h1 (fun t E1 h1 => ?_) fun _ _ z => z)
    cases t with
    | false => exact SWnx (h1.2 rfl)
    | true =>
      have h1 := h1.1 rfl
      have again : ∀ E2, I n E2 → SW (whileN c b n E2) N T B C X := fun E2 h2 => SW_while I n E2 h2 (fun m E hm hI => h m E (by omega) hI) hz
      show SW (loopK (b E1) (whileN c b n)) N T B C X
      exact SW_loop (SW_mono h1 (fun E h => again E h) (fun _ _ h => h) (fun _ h => h) (fun E h => again E h) fun _ _ h => h)
/-! iterables -/
theorem RW_iS {Q : List D → Env → Prop} {x : Env → Res (D × Env)} (h : RW (x E) (fun d E1 => OW (itemsOf d) fun l => Q l E1) X) : RW (iS x E) Q X := RW_bind (RW_mono h (fun p E1 h => RW_of (OW_map h)) fun _ _ z => z)
theorem OW_itemsT {l : List D} {Q : List D → Prop} (hp : pures l = true) (q : Q l) : OW (itemsOf (.tup l)) Q := by
  show OW (if pures l = true then some l else none) Q
  rw [if_pos hp]; exact OW_some q
theorem RW_iR1 {Q : List D → Env → Prop} {x : Env → Res (List D × Env)} (h : RW (x E) (fun l E1 => ∃ n : Nat, l = [nD n] ∧ n ≤ 1000000 ∧ Q ((List.range n).map nD) E1) X) : RW (iR1 x E) Q X := by
  rcases h with ⟨l, E1, hx, h⟩ | ⟨y, E1, hx, h⟩
  · obtain ⟨n, h0, hn, q⟩ := h
    subst h0
    exact RW_eq (iR1_nD hx hn) q
  · unfold iR1
    rw [hx]
    exact RW_exc h
/-! comprehensions -/
theorem RW_lcL {bd : D → Env → Option Env} {et : Env → Res (Bool × Env)} {ee : Env → Res (D × Env)} {own : List Nat} {Q : List D → Env → Prop} (I : Nat → List D → Env → Prop) : ∀ (ds : List D) (i : Nat) (acc : List D) (E : Env), I i acc E →
    (∀ j d acc E, ds[j]? = some d → acc.length ≤ i + j → I (i + j) acc E → OW (bd d E) fun E1 => RW (et E1) (fun t E2 => (t = true → RW (ee E2) (fun y E3 => I (i + j + 1) (acc ++ [y]) (wipeE E3 own)) fun _ _ => False) ∧ (t = false → I (i + j + 1) acc (wipeE E2 own))) fun _ _ => False) →
    acc.length ≤ i → i + ds.length ≤ LIM → (∀ acc E, I (i + ds.length) acc E → Q acc E) → RW (lcL bd et ee own ds acc E) Q X
  | [], i, acc, E, h0, _, _, _, hq => RW_ok (hq acc E h0)
  | d :: r, i, acc, E, h0, h, ha, hl, hq => by
    obtain ⟨E1, e1, h1⟩ := OW_out (h 0 d acc E rfl ha h0)
    obtain ⟨t, E2, e2, h2⟩ := RW_out h1
    have again : ∀ acc E2, acc.length ≤ i + 1 → I (i + 1) acc E2 → RW (lcL bd et ee own r acc E2) Q X := fun acc E2 ha h2 => RW_lcL I r (i + 1) acc E2 h2 (fun j d acc E hj ha hI => by
      have := h (j + 1) d acc E (by simpa using hj) (by omega) (by rw [show i + (j + 1) = i + 1 + j by omega]; exact hI)
      rw [show i + (j + 1) = i + 1 + j by omega] at this
      exact this) ha (by rw [List.length_cons] at hl; omega) (fun acc E hE => hq acc E (by rw [List.length_cons, show i + (r.length + 1) = i + 1 + r.length by omega]; exact hE))
    cases t with
    | true =>
      obtain ⟨y, E3, e3, h3⟩ := RW_out (h2.1 rfl)
      have := again (acc ++ [y]) _ (by simp; omega) h3
      unfold lcL
      simp only [e1, Res.of_some, Res.bind_ok, e2, noX_ok, if_true, e3]
      rw [if_pos (by rw [List.length_cons] at hl; omega)]
      exact this
    | false =>
      have := again acc _ (by omega) (h2.2 rfl)
      unfold lcL
      simp only [e1, Res.of_some, Res.bind_ok, e2, noX_ok, Bool.false_eq_true, if_false]
      exact this
theorem RW_eLc {it : Env → Res (List D × Env)} {bd : D → Env → Option Env} {et : Env → Res (Bool × Env)} {ee : Env → Res (D × Env)} {own : List Nat} (I : Nat → List D → Env → Prop) (h : RW (it E) (fun ds E1 => I 0 [] (wipeE E1 own) ∧ ds.length ≤ LIM ∧
    (∀ j d acc E, ds[j]? = some d → acc.length ≤ j → I j acc E → OW (bd d E) fun E1 => RW (et E1) (fun t E2 => (t = true → RW (ee E2) (fun y E3 => I (j + 1) (acc ++ [y]) (wipeE E3 own)) fun _ _ => False) ∧ (t = false → I (j + 1) acc (wipeE E2 own))) fun _ _ => False) ∧ (∀ acc E, I ds.length acc E → QE (.lst acc) E)) X) : RW (eLc it bd et ee own E) QE X := by
  unfold eLc
  refine RW_bind (RW_mono h (fun ds E1 h => ?_) fun _ _ z => z)
  refine RW_bind (RW_lcL I ds 0 [] _ h.1 (fun j d acc E hj ha hI => ?_) (Nat.le_refl _) (by omega) (fun acc E hE => RW_ok (h.2.2.2 acc E (by rw [Nat.zero_add] at hE; exact hE))))
  rw [Nat.zero_add] at hI ha
  rw [Nat.zero_add]
  exact h.2.2.1 j d acc E hj ha hI
/-- a pure map: nothing changes -/
theorem RW_lcMap {U : Type} (e f : U → D) {it : Env → Res (List D × Env)} {bd : D → Env → Option Env} {et : Env → Res (Bool × Env)} {ee : Env → Res (D × Env)} {own : List Nat} (h : RW (it E) (fun ds E1 => ∃ us : List U, ds = us.map e ∧ us.length ≤ LIM ∧
    (∀ u ∈ us, OW (bd (e u) (wipeE E1 own)) fun E2 => RW (et E2) (fun t E3 => t = true ∧ RW (ee E3) (fun y E4 => y = f u ∧ wipeE E4 own = wipeE E1 own) fun _ _ => False) fun _ _ => False) ∧ QE (.lst (us.map f)) (wipeE E1 own)) X) : RW (eLc it bd et ee own E) QE X := by
  unfold eLc
  refine RW_bind (RW_mono h (fun ds E1 h => ?_) fun _ _ z => z)
  obtain ⟨us, rfl, hl, h1, h2⟩ := h
  have := lcL_map (bd := bd) (et := et) (ee := ee) (own := own) e f id (E := wipeE E1 own) us (fun u hu => by
    obtain ⟨E2, a1, a2⟩ := OW_out (h1 u hu)
    obtain ⟨t, E3, a3, rfl, a4⟩ := RW_out a2
    obtain ⟨y, E4, a5, rfl, a6⟩ := RW_out a4
    exact ⟨E2, E3, E4, a1, a3, a5, a6⟩) hl
  dsimp only
  rw [this]
  exact RW_ok h2
/-- a filter: nothing changes -/
theorem RW_lcFilter {U : Type} (e f : U → D) (p : U → Bool) {it : Env → Res (List D × Env)} {bd : D → Env → Option Env} {et : Env → Res (Bool × Env)} {ee : Env → Res (D × Env)} {own : List Nat} (h : RW (it E) (fun ds E1 => ∃ us : List U, ds = us.map e ∧ us.length ≤ LIM ∧
    (∀ u ∈ us, OW (bd (e u) (wipeE E1 own)) fun E2 => RW (et E2) (fun t E3 => t = p u ∧ (t = true → RW (ee E3) (fun y E4 => y = f u ∧ wipeE E4 own = wipeE E1 own) fun _ _ => False) ∧ (t = false → wipeE E3 own = wipeE E1 own)) fun _ _ => False) ∧ QE (.lst ((us.filter p).map f)) (wipeE E1 own)) X) : RW (eLc it bd et ee own E) QE X := by
  unfold eLc
  refine RW_bind (RW_mono h (fun ds E1 h => ?_) fun _ _ z => z)
  obtain ⟨us, rfl, hl, h1, h2⟩ := h
  have := lcL_pure (bd := bd) (et := et) (ee := ee) (own := own) e f p id (E := wipeE E1 own) us [] (fun u hu => by
    obtain ⟨E2, a1, a2⟩ := OW_out (h1 u hu)
    obtain ⟨t, E3, a3, rfl, a4, a5⟩ := RW_out a2
    refine ⟨E2, E3, a1, a3, fun hp => ?_, a5⟩
    obtain ⟨y, E4, a6, rfl, a7⟩ := RW_out (a4 hp)
    exact ⟨E4, a6, a7⟩) (by simpa using hl)
  dsimp only
  rw [this]
  exact RW_ok h2
/-! a def -/
theorem FW_mk {np nl : Nat} {pin : Pin} {b : Env → SR} {ds : List D} {QF : D → List (Option D) → Prop} {XF : ExcV → List (Option D) → Prop} (hn : ds.length = np) (hE : ds.map some ++ List.replicate (nl - np) none = E)
    (h : SW (b E) (fun E => QF .non (outs pin np E)) (fun d E => QF d (outs pin np E)) (fun _ => False) (fun _ => False) (fun x E => XF x (outs pin np E))) : FW (mkF np nl pin b ds) QF XF := by
  rw [mkF_eq hn, hE]
  exact SWc h (fun E1 e q => by rw [e]; exact FWok q) (fun d E1 e q => by rw [e]; exact FWok q) (fun E1 e q => q.elim) (fun E1 e q => q.elim) (fun y E1 e q => by rw [e]; exact FWexc q)
theorem FW_eq {r : FR} {d : D} {o : List (Option D)} {QF : D → List (Option D) → Prop} {XF : ExcV → List (Option D) → Prop} (h : r = .ok d o) (q : QF d o) : FW r QF XF := by rw [h]; exact FWok q
theorem FW_mono {r : FR} {Q Q' : D → List (Option D) → Prop} {X X' : ExcV → List (Option D) → Prop} (h : FW r Q X) (k : ∀ d o, Q d o → Q' d o) (k2 : ∀ x o, X x o → X' x o) : FW r Q' X' := by
  cases r with
  | ok d o => (rcases h with ⟨_, _, e, h⟩ | ⟨_, _, e, h⟩ <;> cases e; exact FWok (k _ _ h))
  | exc x o => (rcases h with ⟨_, _, e, h⟩ | ⟨_, _, e, h⟩ <;> cases e; exact FWexc (k2 _ _ h))
  | no => (rcases h with ⟨_, _, e, h⟩ | ⟨_, _, e, h⟩ <;> cases e)
end
/-! operators -/
section
variable {i j : Int} {n m : Nat} {l : List D} {d : D} {Q : D → Prop}
theorem OW_lenL (q : Q (nD l.length)) : OW (oLen (.lst l)) Q := OW_some q
theorem OW_lenT (q : Q (nD l.length)) : OW (oLen (.tup l)) Q := OW_some q
theorem OW_lenLm {α : Type} {f : α → D} {l : List α} (q : Q (nD l.length)) : OW (oLen (.lst (l.map f))) Q := by
  refine OW_lenL ?_
  rw [List.length_map]; exact q
theorem OW_lenTm {α : Type} {f : α → D} {l : List α} (q : Q (nD l.length)) : OW (oLen (.tup (l.map f))) Q := by
  refine OW_lenT ?_
  rw [List.length_map]; exact q
theorem OW_addn (q : Q (nD (n + m))) : OW (oAdd (nD n) (nD m)) Q := OW_some q
theorem OW_add1 (q : Q (nD (n + 1))) : OW (oAdd (nD n) (.int 1)) Q := OW_some q
theorem OW_ixT {α : Type} {f : α → D} {l : List α} {x : α} (h : l[n]? = some x) (q : Q (f x)) : OW (oIx (.tup (l.map f)) (nD n)) Q := OW_eq (ixT (n := n) (by rw [List.getElem?_map, h]; rfl)) q
theorem OW_ixL {α : Type} {f : α → D} {l : List α} {x : α} (h : l[n]? = some x) (q : Q (f x)) : OW (oIx (.lst (l.map f)) (nD n)) Q := OW_eq (ixL (n := n) (by rw [List.getElem?_map, h]; rfl)) q
theorem OW_ixTi {α : Type} {f : α → D} {l : List α} (h : n < l.length) (q : Q (f l[n])) : OW (oIx (.tup (l.map f)) (nD n)) Q := OW_ixT (List.getElem?_eq_getElem h) q
theorem OW_ixLi {α : Type} {f : α → D} {l : List α} (h : n < l.length) (q : Q (f l[n])) : OW (oIx (.lst (l.map f)) (nD n)) Q := OW_ixL (List.getElem?_eq_getElem h) q
theorem OW_eqn (q : Q (.bl (decide (n = m)))) : OW (oEq (nD n) (nD m)) Q := OW_eq (oEq_nD n m) q
theorem oNe_nD (i j : Nat) : oNe (nD i) (nD j) = some (.bl (!decide (i = j))) := by
  unfold nD
  rw [oNe_int]
  congr 3
  exact decide_eq_decide.mpr ⟨fun h => by omega, fun h => by omega⟩
theorem OW_nen (q : Q (.bl (!decide (n = m)))) : OW (oNe (nD n) (nD m)) Q := OW_eq (oNe_nD n m) q
theorem OW_eqi (q : Q (.bl (decide (i = j)))) : OW (oEq (.int i) (.int j)) Q := OW_eq (oEq_int i j) q
theorem OW_nei (q : Q (.bl (!decide (i = j)))) : OW (oNe (.int i) (.int j)) Q := OW_eq (oNe_int i j) q
theorem OW_ltn (q : Q (.bl (decide (n < m)))) : OW (oLt (nD n) (nD m)) Q := OW_eq (x := .bl (decide ((n : Int) < m))) rfl (by rw [decide_eq_decide.mpr (show ((n : Int) < m) ↔ n < m by omega)]; exact q)
theorem OW_gtn (q : Q (.bl (decide (m < n)))) : OW (oGt (nD n) (nD m)) Q := OW_eq (x := .bl (decide ((m : Int) < n))) rfl (by rw [decide_eq_decide.mpr (show ((m : Int) < n) ↔ m < n by omega)]; exact q)
theorem OW_len (q : Q (.bl (decide (n ≤ m)))) : OW (oLe (nD n) (nD m)) Q := OW_eq (x := .bl (decide ((n : Int) ≤ m))) rfl (by rw [decide_eq_decide.mpr (show ((n : Int) ≤ m) ↔ n ≤ m by omega)]; exact q)
theorem OW_gen (q : Q (.bl (decide (m ≤ n)))) : OW (oGe (nD n) (nD m)) Q := OW_eq (x := .bl (decide ((m : Int) ≤ n))) rfl (by rw [decide_eq_decide.mpr (show ((m : Int) ≤ n) ↔ m ≤ n by omega)]; exact q)
theorem OW_modn (h : 0 < m) (q : Q (nD (n % m))) : OW (oMod (nD n) (nD m)) Q := OW_eq (oMod_int (i := n) (j := m) (by omega)) q
theorem OW_divn (h : 0 < m) (h2 : m < 1073741824) (q : Q (nD (n / m))) : OW (oDiv (nD n) (nD m)) Q := OW_eq (oDiv_int (i := n) (j := m) (by omega) (by omega)) q
theorem OW_muln (h : n < 1000000000) (q : Q (nD (n * m))) : OW (oMul (nD n) (nD m)) Q := by
  have h1 : (-(2 ^ 64) : Int) < (n : Int) := Int.lt_of_lt_of_le (by decide) (Int.natCast_nonneg n)
  have h2 : (n : Int) < 2 ^ 64 := Int.lt_trans (show (n : Int) < 1000000000 by omega) (by decide)
  have h3 := oMul_int (i := n) (j := m) (.inl ⟨h1, h2⟩)
  rw [← Int.natCast_mul] at h3
  have h4 : oMul (nD n) (nD m) = some (nD (n * m)) := by
    unfold nD
    exact h3
  rw [h4]
  exact OW_some q
theorem OW_subn (h : m ≤ n) (q : Q (nD (n - m))) : OW (oSub (nD n) (nD m)) Q := OW_eq (x := .int ((n : Int) - m)) rfl (by rw [show ((n : Int) - m) = ((n - m : Nat) : Int) by omega]; exact q)
theorem OW_intn (q : Q (nD n)) : OW (oInt (nD n)) Q := OW_some q
end
end VS
namespace VS
open PySem L2
section
variable {α β : Type} {E E1 E2 : Env} {i : Nat} {a b d : D} {N : Env → Prop} {T : D → Env → Prop} {B C : Env → Prop} {X : ExcV → Env → Prop} {Q : D → Prop} {n : Nat}
theorem OW_bCn {k : Nat} (q : Q (nD (@OfNat.ofNat Nat k (instOfNatNat k)))) : OW (bC (.int (@OfNat.ofNat Int k (@instOfNat k))) E) Q := OW_some q
theorem OW_putName {r : Nat} {Q : Env → Prop} {pin : Pin} (hp : pin i = false) (hs : E.set i (some d) = E1) (q : Q E1) : OW (bName pin i d E) Q := OW_bName hp hs q
theorem ex_call {as : List Arg} {ds : List D} {P : List D → Prop} (h1 : valsA as E = some ds) (h2 : uniqA as = true) (h : P ds) : ∃ ds, valsA as E = some ds ∧ uniqA as = true ∧ P ds := ⟨ds, h1, h2, h⟩
theorem ex_bl {t : Bool} {P : Bool → Prop} (h : P t) : ∃ t', D.bl t = .bl t' ∧ P t' := ⟨t, rfl, h⟩
theorem ex_app {l : List D} {P : List D → Prop} (h1 : gv E i = some (.lst l)) (h2 : l.length < LIM) (h : P l) : ∃ l, gv E i = some (.lst l) ∧ l.length < LIM ∧ P l := ⟨l, h1, h2, h⟩
theorem and_pure {P : Prop} (h : d.pure = true) (p : P) : d.pure = true ∧ P := ⟨h, p⟩
theorem and_pures {l : List D} {P : Prop} (h : pures l = true) (p : P) : pures l = true ∧ P := ⟨h, p⟩
theorem ex_rng {P : Nat → Prop} (h : n ≤ 1000000) (p : P n) : ∃ m : Nat, [nD n] = [nD m] ∧ m ≤ 1000000 ∧ P m := ⟨n, rfl, h, p⟩
theorem OW_tupP {l : List D} (h : pures l = true) (q : Q (.tup l)) : OW (oTupleP (.lst l)) Q := by
  show OW ((if pures l = true then some (D.tup l) else none).bind fun z => if z.pure then some z else none) Q
  rw [if_pos h]
  show OW (if (D.tup l).pure = true then some (D.tup l) else none) Q
  rw [pure_tup, if_pos h]
  exact OW_some q
theorem pures_map {f : α → D} {l : List α} (h : ∀ x ∈ l, (f x).pure = true) : pures (l.map f) = true := by
  induction l with
  | nil => simp
  | cons a r ih =>
    rw [List.map_cons, pures_cons, h a (by simp), ih fun x hx => h x (by simp [hx])]
    rfl
theorem FW_use {r : FR} {Q Q' : D → List (Option D) → Prop} {X : ExcV → List (Option D) → Prop} (h : FW r Q fun _ _ => False) (k : ∀ d o, Q d o → Q' d o) : FW r Q' X := FW_mono h k fun _ _ z => z.elim
end
end VS
namespace VS
theorem SW_nx {E' : Env} {r : SR} {N : Env → Prop} {T : D → Env → Prop} {B C : Env → Prop} {X : ExcV → Env → Prop} (h : r = .nx E') (q : N E') : SW r N T B C X := by rw [h]; exact SWnx q
end VS
namespace VS
theorem OW_addT {l m : List D} {Q : D → Prop} (h : l.length + m.length ≤ LIM) (h1 : pures l = true) (h2 : pures m = true) (q : Q (.tup (l ++ m))) : OW (oAdd (.tup l) (.tup m)) Q := by
  refine OW_eq (x := .tup (l ++ m)) ?_ q
  unfold oAdd
  simp only [h, h1, h2, decide_true, Bool.and_self, if_true]
end VS
namespace VS
theorem OW_fSl {E : Env} {ea : Env → Option D} {el eh : Env → Option (Option Int)} {Q : D → Prop} (h : OW (ea E) fun d => OW (el E) fun l => OW (eh E) fun h => OW (oSl d l h) Q) : OW (fSl ea el eh E) Q := OW_bind (OW_mono h fun _ h => OW_bind (OW_mono h fun _ h => OW_bind h))
theorem cutD_init (l : List D) (x : D) : cutD (l ++ [x]) none (some (-1)) = l := by
  have h : (HT.sIx (l ++ [x]).length (l ++ [x]).length (some (-1))) = l.length := by
    show (if (-1 : Int) < 0 then ((-1 : Int) + ((l ++ [x]).length : Int)).toNat else min (-1 : Int).toNat (l ++ [x]).length) = _
    rw [if_pos (by decide), List.length_append, List.length_singleton]
    omega
  unfold cutD
  rw [h, show HT.sIx (l ++ [x]).length 0 none = 0 from rfl]
  simp
theorem OW_slT {l : List D} {a b : Option Int} {Q : D → Prop} (h : pures l = true) (q : Q (.tup (cutD l a b))) : OW (oSl (.tup l) a b) Q := by
  show OW (if pures l = true then some (D.tup (cutD l a b)) else none) Q
  rw [if_pos h]; exact OW_some q
theorem OW_slL {l : List D} {a b : Option Int} {Q : D → Prop} (h : pures l = true) (q : Q (.lst (cutD l a b))) : OW (oSl (.lst l) a b) Q := by
  show OW (if pures l = true then some (D.lst (cutD l a b)) else none) Q
  rw [if_pos h]; exact OW_some q
end VS
namespace VS
theorem OW_inT {neg : Bool} {x : Nat} {l : List Nat} {Q : D → Prop} (q : Q (.bl (if neg then !l.contains x else l.contains x))) : OW (oIn neg (nD x) (.tup (l.map nD))) Q := OW_eq (oIn_tup neg x l) q
theorem OW_inL {neg : Bool} {x : Nat} {l : List Nat} {Q : D → Prop} (q : Q (.bl (if neg then !l.contains x else l.contains x))) : OW (oIn neg (nD x) (.lst (l.map nD))) Q := OW_eq (oIn_lst neg x l) q
end VS
namespace VS
@[simp] theorem pure_str {x : PySem.Str} : (D.str x).pure = true := rfl
end VS
namespace VS
@[simp] theorem pures_rep {d : D} {n : Nat} (h : d.pure = true) : pures (List.replicate n d) = true := by
  induction n with
  | zero => simp
  | succ n ih => rw [List.replicate_succ, pures_cons, h, ih]; rfl
end VS
namespace VS
@[simp] theorem pures_mapA {α : Type} {f : α → D} {l : List α} : pures (l.map f) = l.all fun x => (f x).pure := by
  induction l with
  | nil => simp
  | cons a r ih => simp [ih]
end VS
namespace VS
open PySem L2
section
variable {E : Env} {q : Nat} {N : Env → Prop} {T : D → Env → Prop} {B C : Env → Prop} {X : ExcV → Env → Prop}
theorem SW_forL_nil {bd : D → Env → Option Env} {b : Env → SR} (h : N E) : SW (forL bd b [] E) N T B C X := SWnx h
theorem SW_forL_cons {bd : D → Env → Option Env} {b : Env → SR} {d : D} {r : List D} (h : OW (bd d E) fun E1 => SW (b E1) (fun E2 => SW (forL bd b r E2) N T B C X) T N (fun E2 => SW (forL bd b r E2) N T B C X) X) : SW (forL bd b (d :: r) E) N T B C X := by
  obtain ⟨E1, e1, h1⟩ := OW_out h
  show SW (match bd d E with | some E1 => loopK (b E1) (forL bd b r) | none => .no) N T B C X
  rw [e1]
  show SW (loopK (b E1) (forL bd b r)) N T B C X
  exact SW_loop h1
theorem SW_forU {it : Env → Res (List D × Env)} {bd : D → Env → Option Env} {b : Env → SR} (h : RW (it E) (fun ds E1 => SW (forL bd b ds E1) N T B C X) X) : SW (sFor it bd b E) N T B C X := SW_sr h
theorem SW_setL {ei : Env → Option D} {ee : Env → Res (D × Env)} (h : RW (ee E) (fun p E1 => ∃ l, gv E1 q = some (.lst l) ∧ OW (ei E1) fun d => ∃ j : Nat, d = nD j ∧ j < l.length ∧ N (E1.set q (some (.lst (l.set j p))))) X) : SW (sSetL q lVar ei ee E) N T B C X := by
  rw [setL_var]
  refine SW_sr (RW_mono h (fun p E1 h => ?_) fun _ _ z => z)
  obtain ⟨l, h1, h2⟩ := h
  obtain ⟨d, h3, j, rfl, h4, h5⟩ := OW_out h2
  have h6 : ixN l.length (j : Int) = some j := by
    unfold ixN
    rw [if_pos (by omega), if_pos (by omega)]
    simp
  dsimp only
  rw [h1, h3]
  show SW (match ixN l.length (j : Int) with
      | some j => SR.nx (E1.set q (some (.lst (l.set j p))))
      | none => .no) N T B C X
  rw [h6]
  exact SWnx h5
theorem eqD_bl (a b : Bool) : eqD (.bl a) (.bl b) = some (a == b) := by
  simp only [eqD, D.toP, shaped_bool, Bool.and_self, if_true, PyData.eqv]
theorem OW_neB {a b : Bool} {Q : D → Prop} (h : Q (.bl (a != b))) : OW (oNe (.bl a) (.bl b)) Q := by
  unfold oNe
  rw [eqD_bl]
  exact OW_some h
theorem OW_eqB {a b : Bool} {Q : D → Prop} (h : Q (.bl (a == b))) : OW (oEq (.bl a) (.bl b)) Q := by
  unfold oEq
  rw [eqD_bl]
  exact OW_some h
theorem OW_isNon {d : D} {Q : D → Prop} (h : Q (.bl (isN d))) : OW (oIs d .non) Q := OW_some h
theorem OW_isnNon {d : D} {Q : D → Prop} (h : Q (.bl (!isN d))) : OW (oIsN d .non) Q := OW_some h
theorem OW_itemsL {l : List D} {Q : List D → Prop} (hp : pures l = true) (q : Q l) : OW (itemsOf (.lst l)) Q := by
  show OW (if pures l = true then some l else none) Q
  rw [if_pos hp]; exact OW_some q
theorem OW_ixTl {l : List D} {n : Nat} {x : D} {Q : D → Prop} (h : l[n]? = some x) (q : Q x) : OW (oIx (.tup l) (nD n)) Q := OW_eq (ixT (n := n) h) q
theorem OW_ixLl {l : List D} {n : Nat} {x : D} {Q : D → Prop} (h : l[n]? = some x) (q : Q x) : OW (oIx (.lst l) (nD n)) Q := OW_eq (ixL (n := n) h) q
end
end VS
namespace VS
theorem OW_fAndB {E : Env} {Q : D → Prop} {x y : Env → Option D} (h : OW (x E) fun d => ∃ t, d = .bl t ∧ OW (y E) fun e => ∃ s, e = .bl s ∧ Q (.bl (t && s))) : OW (fAnd x y E) Q := by
  refine OW_fAnd (OW_mono h ?_)
  rintro d ⟨t, rfl, h⟩
  obtain ⟨e, h1, s, rfl, h2⟩ := OW_out h
  cases t with
  | true => exact ⟨true, rfl, fun _ => OW_eq h1 h2, (fun z => nomatch z)⟩
  | false => exact ⟨false, rfl, (fun z => nomatch z), fun _ => h2⟩
theorem OW_fOrB {E : Env} {Q : D → Prop} {x y : Env → Option D} (h : OW (x E) fun d => ∃ t, d = .bl t ∧ OW (y E) fun e => ∃ s, e = .bl s ∧ Q (.bl (t || s))) : OW (fOr x y E) Q := by
  refine OW_fOr (OW_mono h ?_)
  rintro d ⟨t, rfl, h⟩
  obtain ⟨e, h1, s, rfl, h2⟩ := OW_out h
  cases t with
  | true => exact ⟨true, rfl, fun _ => h2, (fun z => nomatch z)⟩
  | false => exact ⟨false, rfl, (fun z => nomatch z), fun _ => OW_eq h1 h2⟩
end VS
namespace VS
open PySem L2
section
variable {E E1 : Env} {r q : Nat} {d : D} {N : Env → Prop} {T : D → Env → Prop} {B C : Env → Prop} {X : ExcV → Env → Prop} {QE : D → Env → Prop}
/-! places -/
theorem OW_lVar {Q : List Nat → Prop} (h : Q []) : OW (lVar E) Q := OW_some h
theorem ixN_lt {n j : Nat} (h : j < n) : ixN n (j : Int) = some j := by
  unfold ixN
  rw [if_pos (by omega), if_pos (by omega)]
  simp
theorem OW_lIx {ea : Env → Option (List Nat)} {eb : Env → Option D} {Q : List Nat → Prop} (hg : gv E r = some d) (h : OW (ea E) fun js => ∃ s l, atD js d = some s ∧ kids s = some l ∧ OW (eb E) fun x => ∃ j : Nat, x = nD j ∧ j < l.length ∧ Q (js ++ [j])) : OW (lIx r ea eb E) Q := by
  unfold lIx
  refine OW_bind (OW_mono h ?_)
  rintro js ⟨s, l, h1, h2, h3⟩
  obtain ⟨x, h4, j, rfl, h5, h6⟩ := OW_out h3
  rw [hg]
  simp only [Option.bind_some, h1, h2, h4]
  show OW ((ixN l.length (j : Int)).map fun j => js ++ [j]) Q
  rw [ixN_lt h5]
  exact OW_some h6
theorem OW_iPl {ep : Env → Option (List Nat)} {Q : List D → Prop} (hg : gv E r = some d) (h : OW (ep E) fun js => ∃ l, atD js d = some (.lst l) ∧ pures l = true ∧ Q l) : OW (iPl r ep E) Q := by
  obtain ⟨js, h1, l, h2, h3, h4⟩ := OW_out h
  unfold iPl bPl
  rw [h1]
  simp only [Option.bind_some, hg, h2, h3, if_true]
  exact OW_some h4
theorem OW_bPl {ep : Env → Option (List Nat)} {Q : D → Prop} (hg : gv E r = some d) (h : OW (ep E) fun js => OW (atD js d) Q) : OW (bPl r ep E) Q := by
  unfold bPl
  refine OW_bind (OW_mono h ?_)
  intro js h
  rw [hg]
  exact h
theorem SW_forP {ep : Env → Option (List D)} {bd : D → Env → Option Env} {b : Env → SR} (hg : gv E r = some d) (h : OW (ep E) fun ds => SW (forL bd b ds (E.set r none)) (fun E' => N (E'.set r (some d))) (fun d' E' => T d' (E'.set r (some d))) (fun _ => False) (fun _ => False) (fun x E' => X x (E'.set r (some d)))) : SW (sForP r ep bd b E) N T B C X := by
  obtain ⟨ds, h1, h2⟩ := OW_out h
  unfold sForP
  rw [hg, h1]
  show SW (backS r d (forL bd b ds (E.set r none))) N T B C X
  exact SWc h2 (fun _ e q => by rw [e]; exact SWnx q) (fun _ _ e q => by rw [e]; exact SWrt q) (fun _ e q => q.elim) (fun _ e q => q.elim) (fun _ _ e q => by rw [e]; exact SWexc q)
theorem RW_lcMapP {U : Type} (e f : U → D) {ep : Env → Option (List D)} {bd : D → Env → Option Env} {et : Env → Res (Bool × Env)} {ee : Env → Res (D × Env)} {own : List Nat} (hg : gv E r = some d) (hs : wipeE (E.set r none) own = E1) (h : OW (ep E) fun ds => ∃ us : List U, ds = us.map e ∧ us.length ≤ LIM ∧
    (∀ u ∈ us, OW (bd (e u) E1) fun E2 => RW (et E2) (fun t E3 => t = true ∧ RW (ee E3) (fun y E4 => y = f u ∧ wipeE E4 own = E1) fun _ _ => False) fun _ _ => False) ∧ QE (.lst (us.map f)) (E1.set r (some d))) : RW (eLcP r ep bd et ee own E) QE X := by
  obtain ⟨ds, h1, us, rfl, hl, h3, h4⟩ := OW_out h
  subst hs
  unfold eLcP
  rw [hg, h1]
  have := lcL_map (bd := bd) (et := et) (ee := ee) (own := own) e f id (E := wipeE (E.set r none) own) us (fun u hu => by
    obtain ⟨E2, a1, a2⟩ := OW_out (h3 u hu)
    obtain ⟨t, E3, a3, rfl, a4⟩ := RW_out a2
    obtain ⟨y, E4, a5, rfl, a6⟩ := RW_out a4
    exact ⟨E2, E3, E4, a1, a3, a5, a6⟩) hl
  show RW ((noX (lcL bd et ee own (us.map e) [] (wipeE (E.set r none) own))).bind fun q => .ok (.lst q.1, q.2.set r (some d))) QE X
  rw [this]
  exact RW_ok h4
theorem OW_mExt {l m : List D} {Q : D × List D → Prop} (h1 : pures l = true) (h2 : pures m = true) (h3 : l.length + m.length ≤ LIM) (q : Q (.non, l ++ m)) : OW (mExt l (.lst m)) Q := by
  show OW (if pures l && pures m && decide (l.length + m.length ≤ LIM) then some (D.non, l ++ m) else none) Q
  simp only [h1, h2, h3, decide_true, Bool.and_self, if_true]
  exact OW_some q
theorem OW_mPop {l : List D} {n : Nat} {x : D} {Q : D × List D → Prop} (h1 : pures l = true) (h2 : l[n]? = some x) (h3 : n < 1000000) (q : Q (x, l.eraseIdx n)) : OW (mPopAt l (nD n)) Q := by
  show OW (if pures l && decide (0 ≤ (n : Int)) && decide ((n : Int) < 1000000) then (l[(n : Int).toNat]?).map fun d => (d, l.eraseIdx (n : Int).toNat) else none) Q
  have h4 : (0 : Int) ≤ n := by omega
  have h5 : (n : Int) < 1000000 := by omega
  simp only [h1, h4, h5, decide_true, Bool.and_self, if_true, Int.toNat_natCast, h2, Option.map_some]
  exact OW_some q
theorem SW_setLP {ep : Env → Option (List Nat)} {ei : Env → Option D} {ee : Env → Res (D × Env)} (h : RW (ee E) (fun p E1 => OW (ep E1) fun js => ∃ d, gv E1 q = some d ∧ ∃ l, atD js d = some (.lst l) ∧ OW (ei E1) fun x => ∃ j : Nat, x = nD j ∧ j < l.length ∧ N (E1.set q (some (modD js (fun _ => .lst (l.set j p)) d)))) X) : SW (sSetL q ep ei ee E) N T B C X := by
  unfold sSetL
  refine SW_sr (RW_mono h (fun p E1 h => ?_) fun _ _ z => z)
  obtain ⟨js, h1, d, h2, l, h3, h4⟩ := OW_out h
  obtain ⟨x, h5, j, rfl, h6, h7⟩ := OW_out h4
  dsimp only
  simp only [h1, Option.bind_some, h2, h3, h5]
  show SW (match (ixN l.length (j : Int)).map fun j => E1.set q (some (modD js (fun _ => .lst (l.set j p)) d)) with
    | some E' => SR.nx E'
    | none => SR.no) N T B C X
  rw [ixN_lt h6]
  exact SWnx h7
theorem SW_bkF (h : B E) : SW ((fun E => SR.bk E) E) N T B C X := SWbk h
theorem SW_ctF (h : C E) : SW ((fun E => SR.ct E) E) N T B C X := SWct h
theorem iR2_int {x : Env → Res (List D × Env)} {i j : Int} (h : x E = .ok ([.int i, .int j], E1)) (h1 : smallR i = true) (h2 : smallR j = true) : iR2 x E = .ok (rngs i (j - i).toNat, E1) := by
  unfold iR2
  rw [h]
  show (if (smallR i && smallR j) = true then Res.ok (rngs i (j - i).toNat, E1) else Res.no) = _
  rw [h1, h2]
  rfl
theorem iR3_int {x : Env → Res (List D × Env)} {i j : Int} (h : x E = .ok ([.int i, .int j, .int (-1)], E1)) (h1 : smallR i = true) (h2 : smallR j = true) : iR3 x E = .ok (rngsD i (i - j).toNat, E1) := by
  unfold iR3
  rw [h]
  show (if ((-1 : Int) == -1 && smallR i && smallR j) = true then Res.ok (rngsD i (i - j).toNat, E1) else Res.no) = _
  rw [h1, h2]
  rfl
theorem RW_iR2 {Q : List D → Env → Prop} {x : Env → Res (List D × Env)} (h : RW (x E) (fun l E1 => ∃ a b : Nat, l = [nD a, nD b] ∧ a ≤ 1000000 ∧ b ≤ 1000000 ∧ Q ((List.range (b - a)).map fun k => nD (a + k)) E1) X) : RW (iR2 x E) Q X := by
  rcases h with ⟨l, E1, hx, h⟩ | ⟨y, E1, hx, h⟩
  · obtain ⟨a, b, h0, ha, hb, q⟩ := h
    subst h0
    have e := iR2_int hx (smallR_nat ha) (smallR_nat hb)
    rw [show ((b : Int) - (a : Int)).toNat = b - a by omega] at e
    exact RW_eq e q
  · unfold iR2
    rw [hx]
    exact RW_exc h
theorem RW_iR3 {Q : List D → Env → Prop} {x : Env → Res (List D × Env)} (h : RW (x E) (fun l E1 => ∃ a b : Nat, l = [nD a, nD b, .int (-1)] ∧ a ≤ 1000000 ∧ b ≤ 1000000 ∧ Q ((List.range (a - b)).map fun k => nD (a - k)) E1) X) : RW (iR3 x E) Q X := by
  rcases h with ⟨l, E1, hx, h⟩ | ⟨y, E1, hx, h⟩
  · obtain ⟨a, b, h0, ha, hb, q⟩ := h
    subst h0
    have e := iR3_int hx (smallR_nat ha) (smallR_nat hb)
    have e2 : rngsD (a : Int) ((a : Int) - (b : Int)).toNat = (List.range (a - b)).map fun k => nD (a - k) := by
      rw [show ((a : Int) - (b : Int)).toNat = a - b by omega]
      unfold rngsD
      apply List.map_congr_left
      intro k hk
      have := List.mem_range.mp hk
      unfold nD
      congr 1
      omega
    rw [e2] at e
    exact RW_eq e q
  · unfold iR3
    rw [hx]
    exact RW_exc h
end
end VS
namespace VS
open PySem L2
theorem OW_put3 {E E1 : Env} {a b c : D} {pin : Pin} {i j l : Nat} {Q : Env → Prop} (h1 : pin i = false) (h2 : pin j = false) (h3 : pin l = false) (hs : ((E.set i (some a)).set j (some b)).set l (some c) = E1) (q : Q E1) : OW (put3 pin i j l [a, b, c] E) Q := by
  subst hs
  unfold put3
  simp only [bName, h1, h2, h3, Bool.false_eq_true, if_false, Option.bind_some]
  exact OW_some q
theorem SW_bk {E : Env} {N : Env → Prop} {T : D → Env → Prop} {B C : Env → Prop} {X : ExcV → Env → Prop} (h : B E) : SW (SR.bk E) N T B C X := SWbk h
theorem SW_ct {E : Env} {N : Env → Prop} {T : D → Env → Prop} {B C : Env → Prop} {X : ExcV → Env → Prop} (h : C E) : SW (SR.ct E) N T B C X := SWct h
end VS
namespace VS
open PySem L2
theorem map_erase {α β : Type} (f : α → β) : ∀ (l : List α) (i : Nat), (l.map f).eraseIdx i = (l.eraseIdx i).map f
  | [], i => by simp
  | a :: r, 0 => rfl
  | a :: r, i + 1 => by simp [map_erase f r i]
theorem perm_erase {α : Type} : ∀ (l : List α) (i : Nat) (h : i < l.length), (l[i] :: l.eraseIdx i).Perm l
  | a :: r, 0, _ => List.Perm.refl _
  | a :: r, i + 1, h => by
    have h : i < r.length := by simpa using h
    show (r[i] :: a :: r.eraseIdx i).Perm (a :: r)
    exact (List.Perm.swap a _ _).trans (List.Perm.cons a (perm_erase r i h))
theorem eqV_nD (a b : Nat) : eqV (nD a).v (nD b).v = decide (a = b) := by
  show ((a : Int) == (b : Int)) = decide (a = b)
  by_cases h : a = b
  · subst h; simp
  · have h2 : ¬ ((a : Int) = (b : Int)) := by omega
    rw [beq_eq_false_iff_ne.mpr h2, decide_eq_false h]
theorem idxOf_nD (x : Nat) : ∀ (l : List Nat) (n : Nat), x ∈ l → ∃ k, idxOf (nD x).v ((l.map nD).map D.v) n = some (n + k) ∧ l[k]? = some x
  | [], n, h => by simp at h
  | a :: r, n, h => by
    rw [List.map_cons, List.map_cons]
    unfold idxOf
    rw [eqV_nD]
    by_cases e : a = x
    · subst e
      exact ⟨0, by simp, rfl⟩
    · have hr : x ∈ r := by
        rcases List.mem_cons.mp h with h | h
        · exact absurd h.symm e
        · exact h
      obtain ⟨k, h1, h2⟩ := idxOf_nD x r (n + 1) hr
      refine ⟨k + 1, ?_, by simpa using h2⟩
      rw [decide_eq_false e]
      simp only [Bool.false_eq_true, if_false]
      rw [h1]
      congr 1
      omega
theorem OW_index {l : List Nat} {x : Nat} {Q : D → Prop} (h : x ∈ l) (q : ∀ k, l[k]? = some x → Q (nD k)) : OW (oIndex (.lst (l.map nD)) (nD x)) Q := by
  obtain ⟨k, h1, h2⟩ := idxOf_nD x l 0 h
  refine OW_eq (x := nD k) ?_ (q k h2)
  unfold oIndex
  have hf : (l.map nD).all D.flat = true := by simp [D.flat, nD]
  simp only [hf, show (nD x).flat = true from rfl, Bool.and_self, if_true]
  rw [h1, Nat.zero_add]
  rfl
theorem fLR2_int {E : Env} {ea eb : Env → Option D} {i j : Int} (h1 : ea E = some (.int i)) (h2 : eb E = some (.int j)) (hl : lim24 i j = true) : fLR2 ea eb E = some (.lst (rngs i (j - i).toNat)) := by
  unfold fLR2
  rw [h1, h2]
  show (if lim24 i j = true then some (D.lst (rngs i (j - i).toNat)) else none) = _
  rw [hl]
  rfl
theorem OW_fLR2 {E : Env} {ea eb : Env → Option D} {Q : D → Prop} (h : OW (ea E) fun d => OW (eb E) fun e => ∃ a b : Nat, d = nD a ∧ e = nD b ∧ a ≤ 1000000 ∧ b ≤ 1000000 ∧ Q (.lst ((List.range (b - a)).map fun k => nD (a + k)))) : OW (fLR2 ea eb E) Q := by
  obtain ⟨d, h1, h2⟩ := OW_out h
  obtain ⟨e, h3, a, b, rfl, rfl, ha, hb, h4⟩ := OW_out h2
  have hl : lim24 (a : Int) (b : Int) = true := by
    unfold lim24
    rw [smallR_nat ha, smallR_nat hb, show ((b : Int) - (a : Int)).toNat = b - a by omega]
    simp
    omega
  have e := fLR2_int h1 h3 hl
  rw [show ((b : Int) - (a : Int)).toNat = b - a by omega] at e
  exact OW_eq e h4
end VS
namespace VS
theorem OW_addL {l m : List D} {Q : D → Prop} (h : l.length + m.length ≤ LIM) (h1 : pures l = true) (h2 : pures m = true) (q : Q (.lst (l ++ m))) : OW (oAdd (.lst l) (.lst m)) Q := by
  refine OW_eq (x := .lst (l ++ m)) ?_ q
  unfold oAdd
  simp only [h, h1, h2, decide_true, Bool.and_self, if_true]
end VS
namespace VS
open PySem L2
def srtN (l : List Nat) : List Nat := l.mergeSort (fun a b => decide (a ≤ b))
theorem srtN_perm (l : List Nat) : (srtN l).Perm l := List.mergeSort_perm l _
theorem srtN_pw (l : List Nat) : (srtN l).Pairwise (· ≤ ·) := by
  have := List.pairwise_mergeSort (le := fun a b : Nat => decide (a ≤ b)) (fun a b c h1 h2 => by simp at *; omega) (fun a b => by simp; omega) l
  exact this.imp (fun h => by simpa using h)
theorem intsOf_nD : ∀ l : List Nat, intsOf (l.map nD) = some (l.map fun n : Nat => (n : Int))
  | [] => rfl
  | a :: r => by
    show (intsOf (r.map nD)).map _ = _
    rw [intsOf_nD r]; rfl
theorem srt_nD (l : List Nat) : (srt (l.map fun n : Nat => (n : Int))).map D.int = (srtN l).map nD := by
  have h : (srtN l).map (fun n : Nat => (n : Int)) = srt (l.map fun n : Nat => (n : Int)) := by
    refine srt_unique ((srtN_perm l).map _) ?_
    rw [List.pairwise_map]
    exact (srtN_pw l).imp fun h => by omega
  rw [← h, List.map_map]
  rfl
theorem OW_sortedT {l : List Nat} {Q : D → Prop} (q : Q (.lst ((srtN l).map nD))) : OW (oSorted (.tup (l.map nD))) Q := by
  refine OW_eq (x := .lst ((srtN l).map nD)) ?_ q
  show (intsOf (l.map nD)).map (fun ns => D.lst ((srt ns).map .int)) = _
  rw [intsOf_nD, ← srt_nD]
  rfl
theorem OW_sortedL {l : List Nat} {Q : D → Prop} (q : Q (.lst ((srtN l).map nD))) : OW (oSorted (.lst (l.map nD))) Q := by
  refine OW_eq (x := .lst ((srtN l).map nD)) ?_ q
  show (intsOf (l.map nD)).map (fun ns => D.lst ((srt ns).map .int)) = _
  rw [intsOf_nD, ← srt_nD]
  rfl
end VS
namespace VS
theorem RW_cut {α : Type} {r : Res (α × Env)} {Q : α → Env → Prop} (Q' : α → Env → Prop) {X : ExcV → Env → Prop} (h : RW r Q' X) (k : ∀ x E, Q' x E → Q x E) : RW r Q X := RW_mono h k fun _ _ z => z
theorem SW_cut {r : SR} {N : Env → Prop} (N' : Env → Prop) {T : D → Env → Prop} {B C : Env → Prop} {X : ExcV → Env → Prop} (h : SW r N' T B C X) (k : ∀ E, N' E → N E) : SW r N T B C X := SW_mono h k (fun _ _ z => z) (fun _ z => z) (fun _ z => z) fun _ _ z => z
theorem OW_cut {α : Type} {r : Option α} {Q : α → Prop} (Q' : α → Prop) (h : OW r Q') (k : ∀ x, Q' x → Q x) : OW r Q := OW_mono h k
end VS

set_option maxRecDepth 100000
set_option maxHeartbeats 2000000
open VS PySem L2 in
local macro_rules | `(tactic| walk_at "v0") => `(tactic| (first
  | with_reducible refine SW_seq ?_
  | with_reducible refine SW_asg ?_
  | with_reducible refine SW_ret ?_
  | with_reducible refine SW_drop ?_
  | with_reducible refine SW_nil ?_
  | with_reducible refine RW_eF ?_
  | ((with_reducible refine OW_bV (d := ?d) ?hg ?_); (case hg => exact rfl))
  | with_reducible refine OW_bCn ?_
  | with_reducible refine OW_bC ?_
  | with_reducible refine OW_bP ?_
  | with_reducible refine OW_b2 ?_
  | with_reducible refine OW_b1 ?_
  | with_reducible refine OW_fNil ?_
  | with_reducible refine OW_fCons ?_
  | with_reducible refine OW_fTup ?_
  | with_reducible refine OW_fLst ?_
  | with_reducible refine OW_fIf ?_
  | with_reducible refine OW_fNot ?_
  | with_reducible refine OW_pB ?_
  | with_reducible refine OW_pNot ?_
  | with_reducible refine OW_fCall ?_
  | with_reducible refine RW_e2 ?_
  | with_reducible refine RW_e1 ?_
  | with_reducible refine RW_eNil ?_
  | with_reducible refine RW_eCons ?_
  | with_reducible refine RW_eTup ?_
  | with_reducible refine RW_eLst ?_
  | with_reducible refine RW_pT ?_
  | with_reducible refine RW_pE ?_
  | with_reducible refine RW_pNotE ?_
  | with_reducible refine RW_pAnd ?_
  | with_reducible refine RW_pOr ?_
  | with_reducible refine RW_tYes ?_
  | with_reducible refine RW_aNil ?_
  | with_reducible refine RW_aOwn ?_
  | ((with_reducible refine RW_aLend (d := ?d) ?hg ?_); (case hg => exact rfl))
  | with_reducible refine RW_eCall ?_
  | ((with_reducible refine RW_eApp (l0 := ?l0) ?hg ?_); (case hg => exact rfl))
  | with_reducible refine RW_iS ?_
  | with_reducible refine RW_iR1 ?_
  | ((with_reducible refine RW_eMov (d := ?d) (E1 := ?E1) ?hg ?hs ?_); (case hg => exact rfl); (case hs => (dsimp only [giveA_l, giveA_o, giveA_nil, wipeE_cons, wipeE_nil, lentOf_l, lentOf_o, lentOf_nil, List.set]; exact rfl)))
  | ((with_reducible refine OW_bName (E1 := ?E1) ?hp ?hs ?_); (case hp => exact rfl); (case hs => (dsimp only [giveA_l, giveA_o, giveA_nil, wipeE_cons, wipeE_nil, lentOf_l, lentOf_o, lentOf_nil, List.set]; exact rfl)))
  | ((with_reducible refine OW_bTup ?hn ?_); (case hn => exact rfl))
  | with_reducible refine OW_bCons ?_
  | with_reducible refine OW_bNil ?_
  | with_reducible refine OW_neB ?_
  | with_reducible refine OW_eqB ?_
  | with_reducible refine OW_isNon ?_
  | with_reducible refine OW_isnNon ?_
  | with_reducible refine SW_forL_nil ?_
  | with_reducible refine SW_bk ?_
  | with_reducible refine SW_ct ?_
  | with_reducible refine OW_some ?_
  | ((with_reducible refine ex_call (ds := ?ds) ?h1 ?h2 ?_); (case h1 => exact rfl); (case h2 => exact rfl); (try dsimp only))
  | with_reducible refine ex_bl ?_
  | ((with_reducible refine and_pure ?h1 ?_); (case h1 => (first | exact rfl | (simp; done))))
  | ((with_reducible refine and_pures ?h1 ?_); (case h1 => (first | exact rfl | (simp; done))))
  | with_reducible refine OW_addn ?_
  | with_reducible refine OW_lenLm ?_
  | with_reducible refine OW_lenTm ?_
  | with_reducible refine OW_lenL ?_
  | with_reducible refine OW_lenT ?_
  | with_reducible refine OW_eqn ?_
  | with_reducible refine OW_nen ?_
  | with_reducible refine OW_ltn ?_
  | with_reducible refine OW_gtn ?_
  | with_reducible refine OW_len ?_
  | with_reducible refine OW_gen ?_
  | with_reducible refine OW_intn ?_))
open VS in
local macro_rules | `(tactic| walk_at "v1") => `(tactic| (first
  | walk_at "v0"
  | with_reducible refine SW_if ?_
  | with_reducible refine RW_eIf ?_))
local macro_rules | `(tactic| walk_at "ve") => `(tactic| repeat (walk_at "v0"))
local macro_rules | `(tactic| walk_at "vc") => `(tactic| repeat (walk_at "v1"))
open VS in
local macro_rules | `(tactic| walk_at "def") => `(tactic| ((refine FW_mk (E := ?E) ?hn ?hE ?_); (case hn => exact rfl); (case hE => (simp only [List.map_cons, List.map_nil, List.cons_append, List.nil_append, List.replicate, Nat.reduceSub]; exact rfl))))
open VS in
local macro_rules | `(tactic| walk_at "nrm") => `(tactic| try dsimp only [giveA_l, giveA_o, giveA_nil, wipeE_cons, wipeE_nil, lentOf_l, lentOf_o, lentOf_nil, List.set])
namespace K91
open PySem L2 VS
@[simp] theorem pure_enc' (t : T) : t.enc.pure = true := pure_enc t
theorem drawN (d : D) (m : Nat) (hd : St d) (h1 : 0 < m) (h2 : m ≤ 100000) : FW (f_law_draw [d, nD m]) (fun r o => ∃ v d', r = nD v ∧ o = [some d', none] ∧ St d' ∧ v < m) fun _ _ => False := by
  obtain ⟨v, d', e, s, h⟩ := drawI d m hd (by omega) (by omega)
  exact FW_eq e ⟨v, d', rfl, rfl, s, by omega⟩
theorem at_map {α β : Type} {f : α → β} {l : List α} {j : Nat} {d : β} (h : (l.map f)[j]? = some d) : ∃ x, l[j]? = some x ∧ d = f x := by
  rw [List.getElem?_map] at h
  obtain ⟨x, h1, h2⟩ := Option.map_eq_some_iff.mp h
  exact ⟨x, h1, h2.symm⟩
theorem at_rng {n j : Nat} {d : D} (h : ((List.range n).map nD)[j]? = some d) : j < n ∧ d = nD j := by
  obtain ⟨x, h1, h2⟩ := at_map h
  obtain ⟨h3, h4⟩ := List.getElem?_eq_some_iff.mp h1
  rw [List.getElem_range] at h4
  subst h4
  exact ⟨by simpa using h3, h2⟩
theorem password_ok (d : D) (hd : St d) {k : Nat} (hk0 : 0 < k) (hk : k ≤ 8) {row : List Nat} (hrl : row.length ≤ 39) (last : List Nat) (hlast : last.length ≤ 100) :
    FW (f_law_password [d, nD k, nT row, nT last]) (fun r o => ∃ (t : T) (d' : D), r = t.enc ∧ o = [some d', none, none, none] ∧ St d' ∧ t.Ok ∧ t.k = k ∧ t.rows.length = row.length + 1 ∧ t.nm = List.replicate row.length [] ++ [last] ∧ (∀ (i : Nat) r, i < row.length → t.rows[i]? = some r → PwRow k row i r)) fun _ _ => False := by
  obtain ⟨rs, d1, x5, x6, e1, s1, n1, p1⟩ := pw_loop d hd hk (by omega) (row := row) (nT last)
  have hlim : LIM = 1000000 := rfl
  walk_at "def"
  walk_at "vc"
  refine SW_nx e1 ?_
  walk_at "vc"
  refine RW_eLc (fun i acc E => ∃ (d' : D) (xs : List Nat), acc = xs.map nD ∧ E = [some d', some (nD k), some (nT row), some (nT last), some (.lst (rs.map nT)), x5, none] ∧ St d' ∧ xs.length = i ∧ ∀ v ∈ xs, v ≤ row.length) ?_
  walk_at "vc"
  refine ex_rng (by omega) ?_
  refine ⟨⟨d1, [], rfl, rfl, s1, rfl, by simp⟩, by simp; omega, ?_, ?_⟩
  · rintro j y acc E hj ha ⟨d', xs, rfl, rfl, s, hl, hx⟩
    walk_at "vc"
    refine ⟨fun _ => ?_, fun z => nomatch z⟩
    walk_at "vc"
    refine OW_lenTm ?_
    walk_at "vc"
    refine FW_use (drawN d' (row.length + 1) s (by omega) (by omega)) ?_
    rintro _ _ ⟨v, d', rfl, rfl, s, hv⟩
    walk_at "nrm"
    refine ⟨d', xs ++ [v], by simp, rfl, s, by simp [hl], fun w hw => ?_⟩
    rcases List.mem_append.mp hw with h | h
    · exact hx w h
    · simp at h; omega
  rintro _ _ ⟨d2, r, rfl, rfl, s2, n2, p2⟩
  refine OW_tupP (pures_nD _) ?_
  refine ex_app rfl (by rw [List.length_map]; omega) ?_
  walk_at "nrm"
  walk_at "vc"
  rw [show rs.map nT ++ [D.tup (r.map nD)] = (rs ++ [r]).map nT by simp [nT]]
  refine OW_tupP (pures_map fun _ _ => pure_nT _) ?_
  walk_at "vc"
  refine RW_lcMap nD (fun _ : Nat => nT []) ?_
  walk_at "vc"
  refine OW_itemsT (l := row.map nD) (pures_nD _) ?_
  refine ⟨row, rfl, by omega, fun u _ => ?_, ?_⟩
  · walk_at "vc"
    refine ⟨rfl, ?_⟩
    walk_at "vc"
    exact ⟨rfl, rfl⟩
  refine OW_tupP (pures_map fun _ _ => pure_nT _) ?_
  walk_at "vc"
  refine OW_addT (by simp; omega) (pures_map fun _ _ => pure_nT _) (by simp) ?_
  walk_at "vc"
  refine ⟨⟨k, rs ++ [r], List.replicate row.length [] ++ [last]⟩, d2, ?_, rfl, s2, ⟨hk0, hk, by simp [n1], by simp, by simp [n1]; omega, ?_, ?_⟩, rfl, by simp [n1], rfl, ?_⟩
  · unfold T.enc
    simp [List.map_const']
  · intro q hq
    show q.length = k ∧ ∀ a ∈ q, a < (rs ++ [r]).length
    rcases List.mem_append.mp hq with h | h
    · obtain ⟨i, hi, e⟩ := List.getElem_of_mem h
      have := p1 i q (by rw [List.getElem?_eq_some_iff]; exact ⟨hi, e⟩)
      refine ⟨this.1, fun a ha => ?_⟩
      obtain ⟨j, hj, e'⟩ := List.getElem_of_mem ha
      have h2 := this.2 (by omega) j a (by rw [List.getElem?_eq_some_iff]; exact ⟨hj, e'⟩)
      rw [List.length_append, List.length_singleton]
      split at h2 <;> omega
    · simp at h
      subst h
      refine ⟨by simpa using n2, fun a ha => ?_⟩
      have := p2 a ha
      rw [List.length_append, List.length_singleton]
      omega
  · intro l hl
    rcases List.mem_append.mp hl with h | h
    · rw [List.eq_of_mem_replicate h]; simp
    · simp at h; subst h; exact hlast
  · intro i q hi hq
    have hq : (rs ++ [r])[i]? = some q := hq
    rw [List.getElem?_append_left (by omega)] at hq
    exact p1 i q hq
end K91

set_option maxRecDepth 100000
set_option maxHeartbeats 2000000
namespace K91
open PySem L2 VS
/-! ### trials that part late: the plain law -/
def nmv (n : Nat) (last : List Nat) (l : Nat) : List Nat := if l = n then last else []
theorem nm_at {t : T} {n : Nat} {last : List Nat} (h : t.nm = List.replicate n [] ++ [last]) {l : Nat} (hl : l < n + 1) : t.name l = nmv n last l := by
  unfold T.name nmv
  rw [h, List.getD_eq_getElem?_getD]
  by_cases e : l = n
  · subst e
    simp
  · rw [List.getElem?_append_left (by simp; omega), if_neg e, List.getElem?_replicate]
    split <;> rfl
theorem pt_nil {i : Nat} : ptOf i [] [] = false := by
  cases i <;> rfl
theorem pt_nmv (i n : Nat) (l1 l2 : List Nat) (l : Nat) : ptOf i (nmv n l1 l) (nmv n l2 l) = (decide (l = n) && ptOf i l1 l2) := by
  unfold nmv
  by_cases e : l = n
  · simp [e]
  · simp [e, pt_nil]
theorem pass_case {α : Type} [DecidableEq α] {step : α → Nat → α} {k : Nat} {part : α → Bool} {s0 : α} {row : List Nat} {ht : α → Nat} {R : α → Prop} (P : Bfs.Pass step k s0 row ht R) (c : Bool) (hp : ∀ x, R x → part x = (decide (ht x = row.length) && c)) : Bfs.Least step k part s0 (if c = true then some row else none) := by
  cases c with
  | true => exact Bfs.pass_least P fun x hx => by simp [hp x hx]
  | false => exact Bfs.never_least P fun x hx => by simp [hp x hx]
structure Late (t u : T) (row l1 l2 : List Nat) (R2 : Nat → Nat → Prop) : Prop where
  ht : t.Ok
  hu : u.Ok
  hk : u.k = t.k
  len : t.rows.length = row.length + 1
  word : ∀ a ∈ row, a < t.k
  rows : ∀ (i : Nat) r, i < row.length → t.rows[i]? = some r → PwRow t.k row i r
  r0 : R2 0 0
  rs : ∀ x y a, x < row.length + 1 → R2 x y → a < t.k → R2 (t.step x a) (u.step y a)
  n1 : ∀ l, l < row.length + 1 → t.name l = nmv row.length l1 l
  n2 : ∀ x y, x < row.length + 1 → R2 x y → u.name y = nmv row.length l2 x
section
variable {t u : T} {row l1 l2 : List Nat} {R2 : Nat → Nat → Prop} (L : Late t u row l1 l2 R2)
include L
theorem late_step {x a : Nat} (hx : x < row.length) (ha : a < t.k) : if a = row[x] then t.step x a = x + 1 else t.step x a ≤ x := by
  have hxl : x < t.rows.length := by have := L.len; omega
  have hr : t.rows[x]? = some t.rows[x] := List.getElem?_eq_getElem hxl
  have h := L.rows x _ hx hr
  have hl : a < t.rows[x].length := by rw [h.1]; exact ha
  have e : t.step x a = t.rows[x][a] := by
    unfold T.step
    simp [List.getD_eq_getElem?_getD, hxl, hl]
  rw [e]
  exact h.2 hx a _ (List.getElem?_eq_getElem hl)
theorem late_lt {x a : Nat} (hx : x < row.length + 1) (ha : a < t.k) : t.step x a < row.length + 1 := by
  have := L.ht.step_lt (l := x) (a := a) (by rw [L.len]; exact hx) ha
  rw [L.len] at this
  exact this
theorem late_pass : Bfs.Pass (st2 t u) t.k (0, 0) row (fun p => p.1) (fun p => p.1 < row.length + 1 ∧ R2 p.1 p.2) where
  word := L.word
  start := ⟨⟨by show 0 < _; omega, L.r0⟩, rfl⟩
  reg := fun x a hx ha => ⟨late_lt L hx.1 ha, L.rs _ _ a hx.1 hx.2 ha⟩
  up := fun x hx h => by
    have := late_step L (x := x.1) (a := row[x.1]) h (L.word _ (List.getElem_mem h))
    rw [if_pos rfl] at this
    exact this
  down := fun x a hx ha => by
    show t.step x.1 a ≤ x.1 ∨ (t.step x.1 a = x.1 + 1 ∧ row[x.1]? = some a)
    by_cases h : x.1 < row.length
    · have := late_step L (x := x.1) h ha
      split at this
      · rename_i e
        exact .inr ⟨this, by rw [List.getElem?_eq_getElem h, e]⟩
      · exact .inl this
    · have := late_lt L (x := x.1) hx.1 ha
      exact .inl (by omega)
theorem late_pass' : Bfs.Pass (st2 u t) t.k (0, 0) row (fun p => p.2) (fun p => p.2 < row.length + 1 ∧ R2 p.2 p.1) where
  word := L.word
  start := ⟨⟨by show 0 < _; omega, L.r0⟩, rfl⟩
  reg := fun x a hx ha => ⟨late_lt L hx.1 ha, L.rs _ _ a hx.1 hx.2 ha⟩
  up := fun x hx h => (late_pass L).up (x.2, x.1) hx h
  down := fun x a hx ha => (late_pass L).down (x.2, x.1) a hx ha
theorem late_least (i : Nat) : Bfs.Least (st2 t u) t.k (part2 i t u) (0, 0) (if ptOf i l1 l2 = true then some row else none) :=
  pass_case (late_pass L) _ fun x hx => by
    unfold part2
    rw [L.n1 _ hx.1, L.n2 _ _ hx.1 hx.2, pt_nmv]
theorem late_least' (i : Nat) : Bfs.Least (st2 u t) u.k (part2 i u t) (0, 0) (if ptOf i l2 l1 = true then some row else none) := by
  rw [L.hk]
  exact pass_case (late_pass' L) _ fun x hx => by
    unfold part2
    rw [L.n1 _ hx.1, L.n2 _ _ hx.1 hx.2, pt_nmv]
theorem late_ok (dues : D) (d0 : oIx dues (.int 0) = some (optD (if ptOf 0 l1 l2 = true then some row else none))) (d1 : oIx dues (.int 1) = some (optD (if ptOf 1 l1 l2 = true then some row else none))) (d2 : oIx dues (.int 2) = some (optD (if ptOf 1 l2 l1 = true then some row else none))) : f_law_answers [t.enc, u.enc, dues] = .ok (.bl true) [none, none, some dues] :=
  answers_ok L.ht L.hu L.hk (late_least L 0) (late_least L 1) (late_least' L 1) dues d0 d1 d2
end
theorem parts_late_ok (d : D) (hd : St d) : FW (f_law_parts_late [d]) (fun r o => r = .bl true) fun _ _ => False := by
  walk_at "def"
  walk_at "vc"
  refine FW_use (drawN d 8 hd (by omega) (by omega)) ?_
  rintro _ _ ⟨v, d1, rfl, rfl, s1, hv⟩
  walk_at "nrm"
  walk_at "vc"
  refine FW_use (drawN d1 21 s1 (by omega) (by omega)) ?_
  rintro _ _ ⟨m, d2, rfl, rfl, s2, hm⟩
  walk_at "nrm"
  walk_at "vc"
  obtain ⟨row, d3, e3, s3, l3, w3⟩ := row_ok d2 (1 + v) (19 + m) s2 (by omega) (by omega) (by omega)
  refine FW_eq e3 ?_
  walk_at "nrm"
  walk_at "vc"
  refine FW_use (drawN d3 5 s3 (by omega) (by omega)) ?_
  rintro _ _ ⟨q, d4, rfl, rfl, s4, hq⟩
  walk_at "nrm"
  walk_at "vc"
  refine FW_use (password_ok d4 s4 (k := 1 + v) (row := row) (last := [q]) (by omega) (by omega) (by omega) (by simp)) ?_
  rintro _ _ ⟨t, d5, rfl, rfl, s5, ht, hk, hl, hn, hr⟩
  walk_at "nrm"
  walk_at "vc"
  refine FW_use (drawN d5 2 s5 (by omega) (by omega)) ?_
  rintro _ _ ⟨c, d6, rfl, rfl, s6, hc⟩
  walk_at "nrm"
  walk_at "vc"
  refine ⟨fun _ => ?_, fun _ => ?_⟩
  · walk_at "vc"
    refine RW_lcMap nD (fun _ => nD 0) ?_
    walk_at "vc"
    refine ex_rng (by omega) ?_
    refine ⟨List.range (1 + v), rfl, by simp [LIM]; omega, fun u _ => ?_, ?_⟩
    · walk_at "vc"
      refine ⟨rfl, ?_⟩
      walk_at "vc"
      exact ⟨rfl, rfl⟩
    refine OW_tupP (pures_map fun _ _ => rfl) ?_
    walk_at "vc"
    have L : Late t ⟨1 + v, [List.replicate (1 + v) 0], [[]]⟩ row [q] [] (fun _ y => y = 0) := {
      ht := ht
      hu := ⟨by show 0 < 1 + v; omega, by show 1 + v ≤ 8; omega, rfl, Nat.succ_pos _, by show 1 ≤ 40; decide, fun r hr => by
        simp at hr
        subst hr
        exact ⟨by simp, fun a ha => by rw [List.eq_of_mem_replicate ha]; exact Nat.succ_pos _⟩, fun l hl => by simp at hl; subst hl; simp⟩
      hk := hk.symm
      len := hl
      word := by rw [hk]; exact w3
      rows := by rw [hk]; exact hr
      r0 := rfl
      rs := fun x y a _ hy ha => by
        subst hy
        show (([List.replicate (1 + v) 0] : List (List Nat)).getD 0 []).getD a 0 = 0
        simp [List.getD_eq_getElem?_getD, List.getElem?_replicate]
        split <;> rfl
      n1 := fun l h => nm_at hn h
      n2 := fun x y _ hy => by
        subst hy
        show ([[]] : List (List Nat)).getD 0 [] = nmv row.length [] x
        unfold nmv
        simp }
    have e5 := late_ok L (.tup [nT row, .non, nT row]) (by rw [if_pos (show ptOf 0 [q] [] = true by simp [ptOf, unl])]; rfl) (by rw [if_neg (show ¬ ptOf 1 [q] [] = true by simp [ptOf, lck])]; rfl) (by rw [if_pos (show ptOf 1 [] [q] = true by simp [ptOf, lck])]; rfl)
    refine FW_eq (d := .bl true) (o := [none, none, some (.tup [nT row, .non, nT row])]) ?_ ?_
    · have hx : D.tup [D.str "trial", nD (1 + v), D.tup [D.tup (List.map (fun x => nD 0) (List.range (1 + v)))], D.tup [D.tup []]] = T.enc ⟨1 + v, [List.replicate (1 + v) 0], [[]]⟩ := by
        unfold T.enc
        simp [List.map_const', nT]
      rw [hx]
      exact e5
    · rfl
  · walk_at "vc"
    refine OW_modn (by decide) ?_
    walk_at "vc"
    obtain ⟨nmd, d7, e7, s7, h7⟩ := pick_ok nT pure_nT d6 [[], [0, 1, 2, 3, 4], [(q + 1) % 5]] s6 (by simp) (by simp)
    refine FW_eq e7 ?_
    walk_at "nrm"
    walk_at "vc"
    refine OW_eq (x := .str "trial") rfl ?_
    walk_at "vc"
    refine OW_eq (x := nD t.k) rfl ?_
    walk_at "vc"
    refine OW_eq (x := .tup (t.rows.map nT)) rfl ?_
    refine and_pure (by simp [pures_map]) ?_
    walk_at "vc"
    refine OW_fSl ?_
    walk_at "vc"
    refine OW_eq (x := .tup (t.nm.map nT)) rfl ?_
    refine OW_some ?_
    refine OW_eq (x := some (-1)) rfl ?_
    refine OW_slT (pures_map fun _ _ => pure_nT _) ?_
    rw [hn, List.map_append, List.map_singleton, cutD_init]
    walk_at "vc"
    refine OW_addT (by simp [LIM]; omega) (pures_map fun _ _ => pure_nT _) (by simp) ?_
    rw [show List.map nT (List.replicate row.length []) ++ [nT nmd] = (List.replicate row.length [] ++ [nmd]).map nT by simp]
    refine OW_fNil ?_
    generalize hu : (⟨t.k, t.rows, List.replicate row.length [] ++ [nmd]⟩ : T) = u
    rw [show D.tup [D.str "trial", nD t.k, D.tup (t.rows.map nT), D.tup ((List.replicate row.length [] ++ [nmd] : List (List Nat)).map nT)] = u.enc by rw [← hu]; rfl]
    walk_at "vc"
    refine OW_inT ?_
    walk_at "vc"
    refine OW_lenTm ?_
    walk_at "vc"
    have hA : ptOf 0 [q] nmd = true := by
      simp at h7
      rcases h7 with rfl | rfl | rfl
      · rfl
      · simp [ptOf, unl]
      · have : q ≠ (q + 1) % 5 := by omega
        simp [ptOf, unl, this]
    have hB : ptOf 1 [q] nmd = decide (0 < nmd.length) := by
      simp at h7
      rcases h7 with rfl | rfl | rfl
      · rfl
      · by_cases e : q = 0 <;> simp [ptOf, lck] <;> omega
      · have : (q + 1) % 5 ≠ q := by omega
        simp [ptOf, lck, this]
    have hC : ptOf 1 nmd [q] = !nmd.contains q := by simp [ptOf, lck]
    have L : Late t u row [q] nmd (fun x y => y = x) := {
      ht := ht
      hu := by
        subst hu
        refine ⟨ht.k0, ht.k1, by simp [hl], ht.n0, ht.n1, ht.row, fun l hl => ?_⟩
        rcases List.mem_append.mp hl with h | h
        · rw [List.eq_of_mem_replicate h]; simp
        · simp at h
          subst h
          simp at h7
          rcases h7 with rfl | rfl | rfl <;> simp
      hk := by subst hu; rfl
      len := hl
      word := by rw [hk]; exact w3
      rows := by rw [hk]; exact hr
      r0 := rfl
      rs := fun x y a _ hy ha => by
        subst hy
        subst hu
        rfl
      n1 := fun l h => nm_at hn h
      n2 := fun x y hx hy => by
        subst hy
        subst hu
        exact nm_at rfl hx }
    have key : ∀ a b : D, a = optD (if decide (0 < nmd.length) = true then some row else none) → b = optD (if (!nmd.contains q) = true then some row else none) → f_law_answers [t.enc, u.enc, .tup [nT row, a, b]] = .ok (.bl true) [none, none, some (.tup [nT row, a, b])] := fun a b ha hb => by
      subst ha
      subst hb
      exact late_ok L _ (by rw [hA]; rfl) (by rw [hB]; rfl) (by rw [hC]; rfl)
    refine ⟨fun z1 => ?_, fun z1 => ?_⟩
    · walk_at "vc"
      refine ⟨fun z2 => ?_, fun z2 => ?_⟩
      · walk_at "vc"
        refine FW_eq (key _ _ (by rw [z1]; rfl) ?_) ?_
        · rw [if_pos rfl] at z2
          rw [z2]; rfl
        · rfl
      · walk_at "vc"
        refine FW_eq (key _ _ (by rw [z1]; rfl) ?_) ?_
        · rw [if_pos rfl] at z2
          rw [z2]; rfl
        · rfl
    · walk_at "vc"
      refine ⟨fun z2 => ?_, fun z2 => ?_⟩
      · walk_at "vc"
        refine FW_eq (key _ _ (by rw [z1]; rfl) ?_) ?_
        · rw [if_pos rfl] at z2
          rw [z2]; rfl
        · rfl
      · walk_at "vc"
        refine FW_eq (key _ _ (by rw [z1]; rfl) ?_) ?_
        · rw [if_pos rfl] at z2
          rw [z2]; rfl
        · rfl
end K91

set_option maxRecDepth 100000
set_option maxHeartbeats 2000000
namespace K91
open PySem L2 VS
/-! ### trials that turn: the plain law -/
def cyc (n : Nat) : List (List Nat) := (List.range n).map fun s => [if s < n - 1 then s + 1 else 0]
def cycT (n : Nat) (f : Nat → Bool) : T := ⟨1, cyc n, (List.range n).map fun s => if f s then [0] else []⟩
theorem cycT_ok {n : Nat} {f : Nat → Bool} (h0 : 0 < n) (h1 : n ≤ 40) : (cycT n f).Ok where
  k0 := Nat.one_pos
  k1 := by show 1 ≤ 8; decide
  len := by show ((List.range n).map _).length = ((List.range n).map _).length; simp
  n0 := by show 0 < ((List.range n).map _).length; simpa using h0
  n1 := by show ((List.range n).map _).length ≤ 40; simpa using h1
  row := fun r hr => by
    obtain ⟨s, hs, rfl⟩ := List.mem_map.mp hr
    refine ⟨rfl, fun a ha => ?_⟩
    show a < ((List.range n).map _).length
    simp at ha hs ⊢
    split at ha <;> omega
  nml := fun l hl => by
    obtain ⟨s, hs, rfl⟩ := List.mem_map.mp hl
    split <;> simp
theorem cyc_step {n : Nat} {f : Nat → Bool} {s : Nat} (hs : s < n) : (cycT n f).step s 0 = (s + 1) % n := by
  unfold T.step cycT cyc
  simp [List.getD_eq_getElem?_getD, hs]
  split
  · rw [Nat.mod_eq_of_lt (by omega)]
  · rw [show s + 1 = n by omega, Nat.mod_self]
theorem cyc_name {n : Nat} {f : Nat → Bool} {s : Nat} (hs : s < n) : (cycT n f).name s = if f s then [0] else [] := by
  unfold T.name cycT
  simp [List.getD_eq_getElem?_getD, hs]
theorem cyc_run {n m : Nat} {f g : Nat → Bool} (hn : 0 < n) (hm : 0 < m) : ∀ c, Bfs.run (st2 (cycT n f) (cycT m g)) (0, 0) (List.replicate c 0) = (c % n, c % m)
  | 0 => by
    rw [Nat.zero_mod, Nat.zero_mod]; rfl
  | c + 1 => by
    rw [List.replicate_succ', Bfs.run_app, cyc_run hn hm c]
    show ((cycT n f).step (c % n) 0, (cycT m g).step (c % m) 0) = _
    rw [cyc_step (Nat.mod_lt _ hn), cyc_step (Nat.mod_lt _ hm)]
    simp
def fnd (p : Nat → Bool) (c : Nat) : Option (List Nat) := ((List.range c).find? p).map fun c => List.replicate c 0
theorem fnd_succ (p : Nat → Bool) (c : Nat) : fnd p (c + 1) = if p c && (fnd p c).isNone then some (List.replicate c 0) else fnd p c := by
  unfold fnd
  rw [List.range_succ, List.find?_append]
  cases h : (List.range c).find? p with
  | some x => simp
  | none =>
    cases hp : p c with
    | true => simp [hp]
    | false => simp [hp]
theorem cyc_least {n m : Nat} {f g : Nat → Bool} (hn : 0 < n) (hm : 0 < m) (i : Nat) (p : Nat → Bool) (hp : ∀ c, ptOf i (if f (c % n) then [0] else []) (if g (c % m) then [0] else []) = p c) :
    Bfs.Least (st2 (cycT n f) (cycT m g)) 1 (part2 i (cycT n f) (cycT m g)) (0, 0) (fnd p (n * m)) := by
  have h := Bfs.turns_least (step := st2 (cycT n f) (cycT m g)) (part := part2 i (cycT n f) (cycT m g)) (s0 := (0, 0)) (n * m) (Nat.mul_pos hn hm) (by rw [cyc_run hn hm]; simp)
  have e : ((List.range (n * m)).find? fun c => part2 i (cycT n f) (cycT m g) (Bfs.run (st2 (cycT n f) (cycT m g)) (0, 0) (List.replicate c 0))) = (List.range (n * m)).find? p := by
    congr 1
    funext c
    rw [cyc_run hn hm, ← hp c]
    unfold part2
    rw [cyc_name (Nat.mod_lt _ hn), cyc_name (Nat.mod_lt _ hm)]
  rw [e] at h
  exact h
theorem pt_bb (a b : Bool) : ptOf 0 (if a then [0] else []) (if b then [0] else []) = (a != b) ∧ ptOf 1 (if a then [0] else []) (if b then [0] else []) = (b && !a) := by
  cases a <;> cases b <;> exact ⟨rfl, rfl⟩
def cycE (n : Nat) (f : Nat → Bool) : D := .tup [.str "trial", nD 1, .tup ((cyc n).map nT), .tup (((List.range n).map fun s => if f s then [0] else []).map nT)]
/-- one item of the inner loop -/
theorem turn_item {d sz n m a oa on om x10 x11 x14 x15 x16 : Option D} {cc : Nat} (hcc : cc ≤ 100000) {L : List D} {k : Nat} {b : Bool} {x : D} (hk : L[k]? = some x) {N : VS.Env → Prop} {T : D → VS.Env → Prop} {B C : VS.Env → Prop} {X : ExcV → VS.Env → Prop}
    (h : N [d, sz, n, m, a, oa, on, om, some (.lst (L.set k (if b && isN x then nT (List.replicate cc 0) else x))), some (nD cc), x10, x11, some (nD k), some (.bl b), x14, x15, x16, none, none]) :
    SW (b_law_turns_late_4 [d, sz, n, m, a, oa, on, om, some (.lst L), some (nD cc), x10, x11, some (nD k), some (.bl b), x14, x15, x16, none, none]) N T B C X := by
  have hkl := (List.getElem?_eq_some_iff.mp hk).1
  have hset : L.set k x = L := by
    obtain ⟨h1, h2⟩ := List.getElem?_eq_some_iff.mp hk
    rw [← h2]; simp
  walk_at "vc"
  refine ⟨fun hb => ?_, fun hb => ?_⟩
  · subst hb
    walk_at "vc"
    refine OW_ixLl hk ?_
    walk_at "vc"
    refine ⟨fun hx => ?_, fun hx => ?_⟩
    · refine SW_setL ?_
      walk_at "vc"
      refine RW_lcMap nD (fun _ => nD 0) ?_
      walk_at "vc"
      refine ex_rng (by omega) ?_
      refine ⟨List.range cc, rfl, by simp [LIM]; omega, fun u _ => ?_, ?_⟩
      · walk_at "vc"
        refine ⟨rfl, ?_⟩
        walk_at "vc"
        exact ⟨rfl, rfl⟩
      refine OW_tupP (by simp) ?_
      refine ⟨_, rfl, ?_⟩
      walk_at "vc"
      refine ⟨k, rfl, hkl, ?_⟩
      walk_at "nrm"
      rw [hx] at h
      simpa [List.map_const', nT] using h
    · walk_at "vc"
      rw [hx, Bool.and_false, if_neg (by decide), hset] at h
      exact h
  · subst hb
    refine ⟨nofun, fun _ => ?_⟩
    walk_at "vc"
    rw [Bool.false_and, if_neg (by decide), hset] at h
    exact h
def dueD (o : Option (List Nat)) : D := optD o
theorem isN_opt (o : Option (List Nat)) : isN (optD o) = o.isNone := by cases o <;> rfl
theorem due_step (p : Nat → Bool) (c : Nat) : (if p c && isN (optD (fnd p c)) then nT (List.replicate c 0) else optD (fnd p c)) = optD (fnd p (c + 1)) := by
  rw [fnd_succ, isN_opt]
  split <;> rfl
theorem turns_late_ok (d : D) (hd : St d) : FW (f_law_turns_late [d]) (fun r o => r = .bl true) fun _ _ => False := by
  walk_at "def"
  walk_at "vc"
  refine FW_use (drawN d 40 hd (by omega) (by omega)) ?_
  rintro _ _ ⟨v1, d1, rfl, rfl, s1, hv1⟩
  walk_at "nrm"
  walk_at "vc"
  refine FW_use (drawN d1 40 s1 (by omega) (by omega)) ?_
  rintro _ _ ⟨v2, d2, rfl, rfl, s2, hv2⟩
  walk_at "nrm"
  walk_at "vc"
  obtain ⟨⟨n, m⟩, d3, e3, s3, h3⟩ := pick_ok (fun p : Nat × Nat => D.tup [nD p.1, nD p.2]) (fun _ => by simp) d2 [(40, 39), (39, 40), (37, 40), (40, 30), (36, 24), (7, 5), (1 + v1, 1 + v2)] s2 (by simp) (by simp)
  have hnm : 0 < n ∧ n ≤ 40 ∧ 0 < m ∧ m ≤ 40 := by
    simp at h3
    omega
  obtain ⟨hn0, hn1, hm0, hm1⟩ := hnm
  have hmul : n * m ≤ 1600 := Nat.mul_le_mul hn1 hm1
  refine FW_eq e3 ?_
  walk_at "nrm"
  walk_at "vc"
  refine FW_use (drawN d3 n s3 (by omega) (by omega)) ?_
  rintro _ _ ⟨a, d4, rfl, rfl, s4, ha⟩
  walk_at "nrm"
  walk_at "vc"
  refine FW_use (drawN d4 m s4 (by omega) (by omega)) ?_
  rintro _ _ ⟨b, d5, rfl, rfl, s5, hb⟩
  walk_at "nrm"
  walk_at "vc"
  walk_at "vc"
  refine RW_lcMap nD (fun s => nT (if s != a then [0] else [])) ?_
  walk_at "vc"
  refine ex_rng (by omega) ?_
  refine ⟨List.range n, rfl, by simp [LIM]; omega, fun u _ => ?_, ?_⟩
  · walk_at "vc"
    refine ⟨rfl, ?_⟩
    walk_at "vc"
    refine ⟨fun h => ?_, fun h => ?_⟩
    · walk_at "vc"
      have h := of_decide_eq_true h
      subst h
      exact ⟨by simp [nT], rfl⟩
    · walk_at "vc"
      have h := of_decide_eq_false h
      exact ⟨by simp [nT, h], rfl⟩
  walk_at "vc"
  refine RW_lcMap nD (fun s => nT (if s == b then [0] else [])) ?_
  walk_at "vc"
  refine ex_rng (by omega) ?_
  refine ⟨List.range m, rfl, by simp [LIM]; omega, fun u _ => ?_, ?_⟩
  · walk_at "vc"
    refine ⟨rfl, ?_⟩
    walk_at "vc"
    refine ⟨fun h => ?_, fun h => ?_⟩
    · walk_at "vc"
      have h := of_decide_eq_true h
      subst h
      exact ⟨by simp [nT], rfl⟩
    · walk_at "vc"
      have h := of_decide_eq_false h
      exact ⟨by simp [nT, h], rfl⟩
  walk_at "vc"
  generalize hon : D.lst (List.map (fun s => nT (if (s != a) = true then [0] else [])) (List.range n)) = on
  generalize hom : D.lst (List.map (fun s => nT (if (s == b) = true then [0] else [])) (List.range m)) = om
  generalize some (D.lst (List.map (fun p => D.tup [nD p.1, nD p.2]) [(40, 39), (39, 40), (37, 40), (40, 30), (36, 24), (7, 5), (1 + v1, 1 + v2)])) = sz
  obtain ⟨P0, hP0⟩ : ∃ p : Nat → Bool, p = fun c => ((c % n != a) != (c % m == b)) := ⟨_, rfl⟩
  obtain ⟨P1, hP1⟩ : ∃ p : Nat → Bool, p = fun c => ((c % m == b) && !(c % n != a)) := ⟨_, rfl⟩
  obtain ⟨P2, hP2⟩ : ∃ p : Nat → Bool, p = fun c => ((c % n != a) && !(c % m == b)) := ⟨_, rfl⟩
  refine SW_for (fun c E => ∃ x9 x10 x11 x12 x13, E = [some d5, sz, some (nD n), some (nD m), some (nD a), some (nD b), some on, some om, some (.lst [optD (fnd P0 c), optD (fnd P1 c), optD (fnd P2 c)]), x9, x10, x11, x12, x13, none, none, none, none, none]) ?_
  walk_at "vc"
  refine OW_muln (by omega) ?_
  walk_at "vc"
  refine ex_rng (by omega) ?_
  refine ⟨⟨none, none, none, none, none, rfl⟩, ?_, ?_⟩
  · rintro c y E hy ⟨x9, x10, x11, x12, x13, rfl⟩
    obtain ⟨hc, rfl⟩ := at_rng hy
    have hcc : c ≤ 100000 := Nat.le_trans (Nat.le_of_lt hc) (Nat.le_trans hmul (by decide))
    walk_at "vc"
    refine OW_modn hn0 ?_
    walk_at "vc"
    refine OW_modn hm0 ?_
    walk_at "vc"
    refine SW_forU ?_
    walk_at "vc"
    refine OW_fAndB ?_
    walk_at "vc"
    refine OW_fAndB ?_
    walk_at "vc"
    refine OW_itemsL (by simp) ?_
    have e0 : ((!decide (c % n = a)) != decide (c % m = b)) = P0 c := by subst hP0; simp [bne, BEq.beq]
    have e1 : (decide (c % m = b) && !!decide (c % n = a)) = P1 c := by subst hP1; simp [bne, BEq.beq]
    have e2 : ((!decide (c % n = a)) && !decide (c % m = b)) = P2 c := by subst hP2; simp [bne, BEq.beq]
    rw [e0, e1, e2]
    refine SW_forL_cons ?_
    iterate 6 walk_at "v1"
    refine turn_item hcc (x := optD (fnd P0 c)) ?_ ?_
    · rfl
    rw [due_step]
    walk_at "nrm"
    refine SW_forL_cons ?_
    iterate 6 walk_at "v1"
    refine turn_item hcc (x := optD (fnd P1 c)) ?_ ?_
    · rfl
    rw [due_step]
    walk_at "nrm"
    refine SW_forL_cons ?_
    iterate 6 walk_at "v1"
    refine turn_item hcc (x := optD (fnd P2 c)) ?_ ?_
    · rfl
    rw [due_step]
    walk_at "nrm"
    walk_at "vc"
    exact ⟨_, _, _, _, _, rfl⟩
  · rintro E ⟨x9, x10, x11, x12, x13, rfl⟩
    walk_at "vc"
    refine RW_lcMap nD (fun s => nT [if s < n - 1 then s + 1 else 0]) ?_
    walk_at "vc"
    refine ex_rng (by omega) ?_
    refine ⟨List.range n, rfl, by simp [LIM]; omega, fun u _ => ?_, ?_⟩
    · walk_at "vc"
      refine ⟨rfl, ?_⟩
      walk_at "vc"
      refine OW_subn (by omega) ?_
      walk_at "vc"
      refine ⟨fun h => ?_, fun h => ?_⟩
      · walk_at "vc"
        have h := of_decide_eq_true h
        exact ⟨by simp [nT, h], rfl⟩
      · walk_at "vc"
        have h := of_decide_eq_false h
        exact ⟨by simp [nT, h], rfl⟩
    refine OW_tupP (by simp) ?_
    walk_at "vc"
    refine RW_lcMap nD (fun s => nT [if s < m - 1 then s + 1 else 0]) ?_
    walk_at "vc"
    refine ex_rng (by omega) ?_
    refine ⟨List.range m, rfl, by simp [LIM]; omega, fun u _ => ?_, ?_⟩
    · walk_at "vc"
      refine ⟨rfl, ?_⟩
      walk_at "vc"
      refine OW_subn (by omega) ?_
      walk_at "vc"
      refine ⟨fun h => ?_, fun h => ?_⟩
      · walk_at "vc"
        have h := of_decide_eq_true h
        exact ⟨by simp [nT, h], rfl⟩
      · walk_at "vc"
        have h := of_decide_eq_false h
        exact ⟨by simp [nT, h], rfl⟩
    refine OW_tupP (by simp) ?_
    walk_at "vc"
    subst hon hom
    refine OW_tupP (by simp) ?_
    walk_at "vc"
    refine OW_tupP (by simp) ?_
    walk_at "vc"
    have hlen : (List.map nD (List.range (n * m))).length = n * m := by simp
    rw [hlen]
    have key := answers_ok (o := cycT n fun s => s != a) (u := cycT m fun s => s == b) (cycT_ok hn0 hn1) (cycT_ok hm0 hm1) rfl (r0 := fnd P0 (n * m)) (r1 := fnd P1 (n * m)) (r2 := fnd P2 (n * m))
      (cyc_least hn0 hm0 0 P0 fun c => by rw [(pt_bb _ _).1, hP0]) (cyc_least hn0 hm0 1 P1 fun c => by rw [(pt_bb _ _).2, hP1])
      (by rw [Nat.mul_comm n m]; exact cyc_least hm0 hn0 1 P2 fun c => by rw [(pt_bb _ _).2, hP2])
      (.lst [optD (fnd P0 (n * m)), optD (fnd P1 (n * m)), optD (fnd P2 (n * m))]) ixL0 ixL1 ixL2
    have eo : ∀ (k : Nat) (f : Nat → Bool), D.tup [D.str "trial", nD 1, D.tup (List.map (fun s => nT [if s < k - 1 then s + 1 else 0]) (List.range k)), D.tup (List.map (fun s => nT (if f s = true then [0] else [])) (List.range k))] = (cycT k f).enc := fun k f => by
      unfold T.enc cycT cyc
      simp [Function.comp_def]
    rw [eo n fun s => s != a, eo m fun s => s == b]
    refine FW_eq key ?_
    rfl
end K91

set_option maxRecDepth 100000
set_option maxHeartbeats 2000000
namespace K91
open PySem L2 VS
/-! ### lengths, plain -/
section
variable (o u : T) (i : Nat)
def Rg (q : P2) : Prop := q.1 < o.rows.length ∧ q.2 < u.rows.length
def lefts (t : T) (a c : Nat) : List Nat := (List.range t.rows.length).filter fun s => t.step s a == c
def preP (p : P2) : List P2 := (List.range o.k).flatMap fun a => (lefts o a p.1).flatMap fun l => (lefts u a p.2).map fun r => (l, r)
def K0 (q : P2) : Option Nat := if part2 i o u q then some 0 else none
def W0 (c : Nat) : List P2 := (List.range c).flatMap fun l => ((List.range u.rows.length).filter fun r => part2 i o u (l, r)).map fun r => (l, r)
variable {o u i} (ho : o.Ok) (hu : u.Ok) (hk : u.k = o.k)
theorem mem_lefts {t : T} {a c s : Nat} : s ∈ lefts t a c ↔ s < t.rows.length ∧ t.step s a = c := by
  unfold lefts
  simp
include ho hu hk
theorem pre_ok : Bfs.Pre (st2 o u) o.k (Rg o u) (preP o u) where
  reg := fun q a hq ha => ⟨ho.step_lt hq.1 ha, hu.step_lt hq.2 (by omega)⟩
  mem := fun p q hp => by
    unfold preP
    simp only [List.mem_flatMap, List.mem_range, List.mem_map, mem_lefts]
    constructor
    · rintro ⟨a, ha, l, ⟨h1, h2⟩, r, ⟨h3, h4⟩, rfl⟩
      exact ⟨⟨h1, h3⟩, a, ha, Prod.ext h2 h4⟩
    · rintro ⟨⟨h1, h2⟩, a, ha, h3⟩
      exact ⟨a, ha, q.1, ⟨h1, congrArg Prod.fst h3⟩, q.2, ⟨h2, congrArg Prod.snd h3⟩, rfl⟩
omit ho hu hk in
theorem W0_mem {q : P2} {c : Nat} : q ∈ W0 o u i c ↔ q.1 < c ∧ q.2 < u.rows.length ∧ part2 i o u q = true := by
  unfold W0
  simp only [List.mem_flatMap, List.mem_range, List.mem_map, List.mem_filter]
  constructor
  · rintro ⟨l, hl, r, ⟨h1, h2⟩, rfl⟩
    exact ⟨hl, h1, h2⟩
  · rintro ⟨h1, h2, h3⟩
    exact ⟨q.1, h1, q.2, ⟨h2, h3⟩, rfl⟩
omit ho hu hk in
theorem W0_nodup : ∀ c, (W0 o u i c).Nodup
  | 0 => by simp [W0]
  | c + 1 => by
    have ih := W0_nodup c
    unfold W0 at ih ⊢
    rw [List.range_succ, List.flatMap_append, List.nodup_append]
    refine ⟨ih, ?_, fun x hx y hy e => ?_⟩
    · simp only [List.flatMap_cons, List.flatMap_nil, List.append_nil]
      rw [List.Nodup, List.pairwise_map]
      refine List.Pairwise.imp_of_mem (R := fun a b => a ≠ b) (fun _ _ h e => h (congrArg Prod.snd e)) ?_
      exact (List.nodup_range).filter _
    · subst e
      have h1 := (W0_mem (i := i)).mp hx
      simp only [List.flatMap_cons, List.flatMap_nil, List.append_nil, List.mem_map] at hy
      obtain ⟨r, _, rfl⟩ := hy
      exact absurd h1.1 (Nat.lt_irrefl _)
omit ho hu hk in
theorem binv0 : Bfs.BInv (st2 o u) o.k (part2 i o u) (Rg o u) (preP o u) (K0 o u i) (W0 o u i o.rows.length) 0 0 where
  len := Nat.zero_le _
  inR := fun q hq => ⟨(W0_mem.mp hq).1, (W0_mem.mp hq).2.1⟩
  mem := fun q hq => by
    rw [W0_mem]
    unfold K0
    by_cases h : part2 i o u q = true
    · simp [h]; exact hq
    · simp [h]
  nodup := W0_nodup _
  lo := fun q d hq h => by
    unfold K0 at h
    by_cases hp : part2 i o u q = true
    · rw [if_pos hp] at h
      cases h
      exact ⟨[], fun _ z => by simp at z, rfl, hp⟩
    · rw [if_neg hp] at h
      cases h
  zero := fun q hq h => by unfold K0; rw [if_pos h]
  mono := by
    have key : ∀ q, (K0 o u i q).getD 0 = 0 := fun q => by unfold K0; split <;> rfl
    simp only [key]
    exact List.pairwise_of_forall (fun _ _ => Nat.le_refl _)
  top := fun q hq => by
    unfold K0; split <;> exact Nat.le_refl _
  done := fun j p hj => by omega
omit ho hu hk in
theorem binv_len {K : P2 → Option Nat} {W : List P2} {j top : Nat} (I : Bfs.BInv (st2 o u) o.k (part2 i o u) (Rg o u) (preP o u) K W j top) : W.length ≤ o.rows.length * u.rows.length := by
  have := good_len (o := o) (u := u) (W := W.map fun q => (q, [])) ⟨by
    rw [List.map_map]
    have : ((fun x : P2 × List Nat => x.1) ∘ fun q : P2 => (q, ([] : List Nat))) = id := rfl
    rw [this, List.map_id]
    exact I.nodup, fun x hx => by
    obtain ⟨q, hq, rfl⟩ := List.mem_map.mp hx
    exact I.inR q hq⟩
  simpa using this
theorem lens_ex : Bfs.Ex (st2 o u) o.k (part2 i o u) (Rg o u) (Bfs.back (preP o u) (o.rows.length * u.rows.length) 0 (K0 o u i, W0 o u i o.rows.length)) :=
  Bfs.back_ex (pre_ok ho hu hk) (fun K W j top I => binv_len I) _ 0 _ _ 0 binv0 (fun p _ => Nat.zero_le _) (by omega)
end
end K91

set_option maxRecDepth 100000
set_option maxHeartbeats 2000000
namespace K91
open PySem L2 VS
def oD : Option Nat → D
  | none => .non
  | some n => nD n
@[simp] theorem pure_oD (x : Option Nat) : (oD x).pure = true := by cases x <;> rfl
def rowD (n : Nat) (K : P2 → Option Nat) (l : Nat) : D := .lst ((List.range n).map fun r => oD (K (l, r)))
def tabD (m n : Nat) (K : P2 → Option Nat) : D := .lst ((List.range m).map (rowD n K))
def pD (p : P2) : D := .tup [nD p.1, nD p.2]
@[simp] theorem pure_pD (p : P2) : (pD p).pure = true := by simp [pD]
def WD (W : List P2) : D := .lst (W.map pD)
def IO (t : T) : D := .lst ((List.range t.k).map fun a => llD (intoC t a t.rows.length))
def envB (o u : T) (lack : D) (s : (P2 → Option Nat) × List P2) (x5 x6 x7 x8 x9 x10 x11 x12 : Option D) : VS.Env := [some o.enc, some u.enc, some lack, some (tabD o.rows.length u.rows.length s.1), some (WD s.2), x5, x6, x7, x8, x9, x10, x11, x12, none, none]
theorem tab_upd {m n l r d : Nat} {K : P2 → Option Nat} (hl : l < m) (hr : r < n) : modD [l] (fun _ => .lst (((List.range n).map fun r => oD (K (l, r))).set r (nD d))) (tabD m n K) = tabD m n (Bfs.updK K (l, r) d) := by
  show D.lst (((List.range m).map (rowD n K)).modify l fun _ => .lst (((List.range n).map fun r => oD (K (l, r))).set r (nD d))) = _
  unfold tabD
  congr 1
  apply List.ext_getElem?
  intro j
  rw [List.getElem?_modify, List.getElem?_map, List.getElem?_map]
  by_cases hj : j < m
  · rw [List.getElem?_range hj]
    by_cases e : l = j
    · subst e
      show some (if l = l then D.lst (((List.range n).map fun r => oD (K (l, r))).set r (nD d)) else rowD n K l) = some (rowD n (Bfs.updK K (l, r) d) l)
      rw [if_pos rfl]
      show some (D.lst (((List.range n).map fun r => oD (K (l, r))).set r (nD d))) = some (rowD n (Bfs.updK K (l, r) d) l)
      congr 1
      unfold rowD
      congr 1
      apply List.ext_getElem?
      intro q
      rw [List.getElem?_set, List.getElem?_map]
      by_cases hq : q < n
      · simp only [List.length_map, List.length_range, List.getElem?_map, List.getElem?_range hq, Option.map_some]
        by_cases e : r = q
        · subst e
          simp [hq, Bfs.updK, oD]
        · (simp [e, Bfs.updK]; rw [if_neg (fun z : q = r => e z.symm)])
      · simp only [List.length_map, List.length_range]
        rw [if_neg (by omega)]
        simp [hq]
    · show some (if l = j then D.lst (((List.range n).map fun r => oD (K (l, r))).set r (nD d)) else rowD n K j) = some (rowD n (Bfs.updK K (l, r) d) j)
      rw [if_neg e]
      show some (rowD n K j) = some (rowD n (Bfs.updK K (l, r) d) j)
      congr 1
      unfold rowD
      congr 1
      apply List.map_congr_left
      intro q _
      unfold Bfs.updK
      rw [if_neg (fun z => e (congrArg Prod.fst z).symm)]
  · rw [List.getElem?_eq_none (by simpa using hj)]
    rfl
theorem tab_1 {m n l : Nat} {K : P2 → Option Nat} {Q : D → Prop} (hl : l < m) (q : Q (rowD n K l)) : OW (oIx (tabD m n K) (nD l)) Q := OW_ixL (x := l) (List.getElem?_range hl) q
theorem tab_2 {n l r : Nat} {K : P2 → Option Nat} {Q : D → Prop} (hr : r < n) (q : Q (oD (K (l, r)))) : OW (oIx (rowD n K l) (nD r)) Q := OW_ixL (f := fun r => oD (K (l, r))) (x := r) (List.getElem?_range hr) q
theorem pair_0 {p : P2} {Q : D → Prop} (q : Q (nD p.1)) : OW (oIx (pD p) (nD 0)) Q := OW_ixTl (x := nD p.1) rfl q
theorem pair_1 {p : P2} {Q : D → Prop} (q : Q (nD p.2)) : OW (oIx (pD p) (nD 1)) Q := OW_ixTl (x := nD p.2) rfl q
section
variable {N : VS.Env → Prop} {T1 : D → VS.Env → Prop} {B C : VS.Env → Prop} {X : ExcV → VS.Env → Prop}
/-- one pair that leads to p -/
theorem relax_body {o u : T} {lack : D} {s : (P2 → Option Nat) × List P2} {l r kp : Nat} {p : P2} {x6 x7 x8 x9 x11 : Option D} (hp : p.1 < o.rows.length ∧ p.2 < u.rows.length) (hl : l < o.rows.length) (hr : r < u.rows.length) (hk : s.1 p = some kp) (hw : s.2.length ≤ 1600)
    (h : N (envB o u lack (Bfs.relax p s (l, r)) (some (nD l)) x6 x7 x8 x9 (some (pD p)) x11 (some (nD r)))) :
    SW (b_law_lengths_5 (envB o u lack s (some (nD l)) x6 x7 x8 x9 (some (pD p)) x11 (some (nD r)))) N T1 B C X := by
  have hlim : LIM = 1000000 := rfl
  unfold envB
  walk_at "vc"
  refine tab_1 hl ?_
  walk_at "vc"
  refine tab_2 hr ?_
  walk_at "vc"
  refine ⟨fun hn => ?_, fun hn => ?_⟩
  · have hn : s.1 (l, r) = none := by
      cases e : s.1 (l, r) with
      | none => rfl
      | some x => rw [e] at hn; cases hn
    walk_at "vc"
    refine SW_setLP ?_
    walk_at "vc"
    refine pair_0 ?_
    refine tab_1 hp.1 ?_
    walk_at "vc"
    refine pair_1 ?_
    refine tab_2 hp.2 ?_
    rw [hk]
    walk_at "vc"
    refine OW_add1 ?_
    refine OW_lIx rfl ?_
    refine OW_lVar ?_
    refine ⟨_, _, rfl, rfl, ?_⟩
    walk_at "vc"
    refine ⟨l, rfl, by simpa using hl, ?_⟩
    refine ⟨_, rfl, (List.range u.rows.length).map fun r => oD (s.1 (l, r)), ?_, ?_⟩
    · show (((List.range o.rows.length).map (rowD u.rows.length s.1))[l]?).bind (atD []) = _
      rw [List.getElem?_map, List.getElem?_range hl]
      rfl
    walk_at "vc"
    refine ⟨r, rfl, by simpa using hr, ?_⟩
    rw [List.nil_append, tab_upd hl hr]
    walk_at "nrm"
    walk_at "vc"
    refine ex_app rfl (by rw [List.length_map]; omega) ?_
    walk_at "nrm"
    have e : Bfs.relax p s (l, r) = (Bfs.updK s.1 (l, r) (kp + 1), s.2 ++ [(l, r)]) := by
      unfold Bfs.relax
      rw [if_pos hn, hk]
      rfl
    rw [e] at h
    unfold envB WD at h
    rw [List.map_append] at h
    exact h
  · have hn : s.1 (l, r) ≠ none := fun z => by rw [z] at hn; cases hn
    walk_at "vc"
    have e : Bfs.relax p s (l, r) = s := by
      unfold Bfs.relax
      rw [if_neg hn]
    rw [e] at h
    exact h
end
end K91

set_option maxRecDepth 100000
set_option maxHeartbeats 2000000
namespace K91
open PySem L2 VS
theorem into_at {t : T} {a c : Nat} (hc : c < t.rows.length) : (intoC t a t.rows.length)[c]? = some (lefts t a c) := by
  unfold intoC lefts
  rw [List.getElem?_map, List.getElem?_range hc]
  rfl
theorem into_place {t : T} {E : VS.Env} {rr a c : Nat} {eb : VS.Env → Option D} {Q : List D → Prop} (hg : gv E rr = some (IO t)) (ha : a < t.k) (hx : gv E 11 = some (nD a)) (hc : c < t.rows.length) (hb : OW (eb E) fun x => x = nD c) (q : Q ((lefts t a c).map nD)) : OW (iPl rr (lIx rr (lIx rr lVar (bV 11)) eb) E) Q := by
  refine OW_iPl hg ?_
  refine OW_lIx hg ?_
  refine OW_lIx hg ?_
  refine OW_lVar ?_
  refine ⟨_, _, rfl, rfl, ?_⟩
  refine OW_bV hx ?_
  refine ⟨a, rfl, by simpa using ha, ?_⟩
  have e1 : atD ([] ++ [a]) (IO t) = some (llD (intoC t a t.rows.length)) := by
    show (((List.range t.k).map fun a => llD (intoC t a t.rows.length))[a]?).bind (atD []) = _
    rw [List.getElem?_map, List.getElem?_range ha]
    rfl
  refine ⟨_, _, e1, rfl, ?_⟩
  refine OW_mono hb ?_
  rintro x rfl
  refine ⟨c, rfl, by rw [List.length_map, intoC_len]; exact hc, ?_⟩
  refine ⟨(lefts t a c).map nD, ?_, pures_nD _, q⟩
  show (((List.range t.k).map fun a => llD (intoC t a t.rows.length))[a]?).bind (atD [c]) = _
  rw [List.getElem?_map, List.getElem?_range ha]
  show (((intoC t a t.rows.length).map fun l => D.lst (l.map nD))[c]?).bind (atD []) = _
  rw [List.getElem?_map, into_at hc]
  rfl
section
variable {o u : T} {lack : D} {p : P2} {kp : Nat} {s0 : (P2 → Option Nat) × List P2} (hp : p.1 < o.rows.length ∧ p.2 < u.rows.length) (hk : u.k = o.k)
  (hG : ∀ L : List P2, (∀ q ∈ L, q ∈ preP o u p) → (L.foldl (Bfs.relax p) s0).1 p = some kp ∧ (L.foldl (Bfs.relax p) s0).2.length ≤ 1600)
  {N : VS.Env → Prop} {T1 : D → VS.Env → Prop} {B C : VS.Env → Prop} {X : ExcV → VS.Env → Prop}
include hp hk hG
theorem loopR {L : List P2} (hL : ∀ q ∈ L, q ∈ preP o u p) {l a : Nat} (ha : a < o.k) (hl : l ∈ lefts o a p.1) {x6 x7 x9 x12 : Option D}
    (h : ∀ x12, N (envB o u lack ((L ++ (lefts u a p.2).map fun r => (l, r)).foldl (Bfs.relax p) s0) (some (nD l)) x6 x7 (some (IO u)) x9 (some (pD p)) (some (nD a)) x12)) :
    SW (b_law_lengths_6 (envB o u lack (L.foldl (Bfs.relax p) s0) (some (nD l)) x6 x7 (some (IO u)) x9 (some (pD p)) (some (nD a)) x12)) N T1 B C X := by
  refine SW_forP (d := IO u) rfl ?_
  refine into_place (t := u) rfl (by omega) rfl hp.2 (OW_b2 (OW_bV rfl (OW_bCn (pair_1 rfl)))) ?_
  refine SW_forL (fun j E => ∃ x12, E = envB o u lack ((L ++ ((lefts u a p.2).take j).map fun r => (l, r)).foldl (Bfs.relax p) s0) (some (nD l)) x6 x7 none x9 (some (pD p)) (some (nD a)) x12) _ 0 _ ⟨x12, by rw [List.take_zero, List.map_nil, List.append_nil]; rfl⟩ ?_ ?_
  · rintro j y E hy ⟨x12, rfl⟩
    rw [Nat.zero_add]
    obtain ⟨r, hr, rfl⟩ := at_map hy
    have hrm := List.mem_of_getElem? hr
    have hrl := mem_lefts.mp hrm
    have hll := mem_lefts.mp hl
    have hsub : ∀ q ∈ L ++ ((lefts u a p.2).take j).map (fun r => (l, r)), q ∈ preP o u p := fun q hq => by
      rcases List.mem_append.mp hq with h | h
      · exact hL q h
      · obtain ⟨r', hr', rfl⟩ := List.mem_map.mp h
        unfold preP
        simp only [List.mem_flatMap, List.mem_range, List.mem_map]
        exact ⟨a, ha, l, hl, r', List.mem_of_mem_take hr', rfl⟩
    obtain ⟨g1, g2⟩ := hG _ hsub
    refine OW_bName (E1 := envB o u lack ((L ++ ((lefts u a p.2).take j).map fun r => (l, r)).foldl (Bfs.relax p) s0) (some (nD l)) x6 x7 none x9 (some (pD p)) (some (nD a)) (some (nD r))) rfl rfl ?_
    refine relax_body hp hll.1 hrl.1 g1 g2 ?_
    refine ⟨some (nD r), ?_⟩
    rw [List.take_succ, hr, List.map_append, ← List.append_assoc]
    generalize L ++ ((lefts u a p.2).take j).map (fun r => (l, r)) = M
    rw [List.foldl_append]
    rfl
  · rintro E ⟨x12, rfl⟩
    rw [List.length_map, Nat.zero_add, List.take_length]
    exact h x12
theorem loopL {L : List P2} (hL : ∀ q ∈ L, q ∈ preP o u p) {a : Nat} (ha : a < o.k) {x5 x6 x9 x12 : Option D}
    (h : ∀ x5 x12, N (envB o u lack ((L ++ (lefts o a p.1).flatMap fun l => (lefts u a p.2).map fun r => (l, r)).foldl (Bfs.relax p) s0) x5 x6 (some (IO o)) (some (IO u)) x9 (some (pD p)) (some (nD a)) x12)) :
    SW (b_law_lengths_7 (envB o u lack (L.foldl (Bfs.relax p) s0) x5 x6 (some (IO o)) (some (IO u)) x9 (some (pD p)) (some (nD a)) x12)) N T1 B C X := by
  refine SW_forP (d := IO o) rfl ?_
  refine into_place (t := o) rfl ha rfl hp.1 (OW_b2 (OW_bV rfl (OW_bCn (pair_0 rfl)))) ?_
  refine SW_forL (fun j E => ∃ x5 x12, E = envB o u lack ((L ++ ((lefts o a p.1).take j).flatMap fun l => (lefts u a p.2).map fun r => (l, r)).foldl (Bfs.relax p) s0) x5 x6 none (some (IO u)) x9 (some (pD p)) (some (nD a)) x12) _ 0 _ ⟨x5, x12, by rw [List.take_zero, List.flatMap_nil, List.append_nil]; rfl⟩ ?_ ?_
  · rintro j y E hy ⟨x5, x12, rfl⟩
    rw [Nat.zero_add]
    obtain ⟨l, hl, rfl⟩ := at_map hy
    have hlm := List.mem_of_getElem? hl
    have hsub : ∀ q ∈ L ++ ((lefts o a p.1).take j).flatMap (fun l => (lefts u a p.2).map fun r => (l, r)), q ∈ preP o u p := fun q hq => by
      rcases List.mem_append.mp hq with h | h
      · exact hL q h
      · obtain ⟨l', hl', h⟩ := List.mem_flatMap.mp h
        unfold preP
        simp only [List.mem_flatMap, List.mem_range]
        exact ⟨a, ha, l', List.mem_of_mem_take hl', h⟩
    refine OW_bName (E1 := envB o u lack ((L ++ ((lefts o a p.1).take j).flatMap fun l => (lefts u a p.2).map fun r => (l, r)).foldl (Bfs.relax p) s0) (some (nD l)) x6 none (some (IO u)) x9 (some (pD p)) (some (nD a)) x12) rfl rfl ?_
    refine loopR hp hk hG hsub ha hlm ?_
    intro x12
    refine ⟨some (nD l), x12, ?_⟩
    rw [List.take_succ, hl, List.flatMap_append, ← List.append_assoc]
    congr 3
    simp
  · rintro E ⟨x5, x12, rfl⟩
    rw [List.length_map, Nat.zero_add, List.take_length]
    exact h x5 x12
end
end K91

set_option maxRecDepth 100000
set_option maxHeartbeats 2000000
namespace Bfs
theorem binv_next {α : Type} [DecidableEq α] {step : α → Nat → α} {k : Nat} {part : α → Bool} {R : α → Prop} {pre : α → List α} (P : Pre step k R pre) {K : α → Option Nat} {W : List α} {i top : Nat} {p : α} (I : BInv step k part R pre K W i top) (ht : ∀ p, W[i]? = some p → top ≤ (K p).getD 0 + 1) (e : W[i]? = some p) :
    ∃ kp, (∀ L : List α, (∀ q ∈ L, q ∈ pre p) → (L.foldl (relax p) (K, W)).1 p = some kp ∧ BInv step k part R pre (L.foldl (relax p) (K, W)).1 (L.foldl (relax p) (K, W)).2 i (kp + 1)) ∧
      BInv step k part R pre ((pre p).foldl (relax p) (K, W)).1 ((pre p).foldl (relax p) (K, W)).2 (i + 1) (kp + 1) ∧ ∀ y, ((pre p).foldl (relax p) (K, W)).2[i + 1]? = some y → kp + 1 ≤ (((pre p).foldl (relax p) (K, W)).1 y).getD 0 + 1 := by
  have il := (List.getElem?_eq_some_iff.mp e).1
  have pm := List.mem_of_getElem? e
  obtain ⟨kp, hk⟩ := Option.ne_none_iff_exists'.mp ((I.mem p (I.inR p pm)).mp pm)
  have I' : BInv step k part R pre K W i (kp + 1) := ⟨I.len, I.inR, I.mem, I.nodup, I.lo, I.zero, I.mono, fun q hq => by
    have h1 := I.top q hq
    have h2 := ht p e
    rw [hk] at h2
    simp at h2
    omega, I.done⟩
  refine ⟨kp, fun L hL => ?_, ?_⟩
  · obtain ⟨J, h1, h2, V, h3⟩ := binv_row (W0 := W) P L K W I' pm hk hL
    exact ⟨h2 p kp hk, J⟩
  obtain ⟨J, h1, h2, V, h3⟩ := binv_row (W0 := W) P (pre p) K W I' pm hk fun _ h => h
  have key : BInv step k part R pre ((pre p).foldl (relax p) (K, W)).1 ((pre p).foldl (relax p) (K, W)).2 (i + 1) (kp + 1) := by
    refine ⟨?_, J.inR, J.mem, J.nodup, J.lo, J.zero, J.mono, J.top, fun j y hj hy x hx => ?_⟩
    · rw [h3, List.length_append]; omega
    · by_cases z : j = i
      · subst z
        rw [h3, List.getElem?_append_left il, e] at hy
        cases hy
        rw [h2 p kp hk]
        exact h1 x hx
      · exact J.done j y (by omega) hy x hx
  refine ⟨key, fun y hy => ?_⟩
  have e' : ((pre p).foldl (relax p) (K, W)).2[i]? = some p := by rw [h3, List.getElem?_append_left il]; exact e
  obtain ⟨l1, e1⟩ := List.getElem?_eq_some_iff.mp e'
  obtain ⟨l2, e2⟩ := List.getElem?_eq_some_iff.mp hy
  have := List.pairwise_iff_getElem.mp J.mono i (i + 1) l1 l2 (by omega)
  rw [e1, e2, h2 p kp hk] at this
  simp at this
  omega
end Bfs
namespace K91
open PySem L2 VS
theorem nm_map {u : T} (hu : u.Ok) {β : Type} (f : List Nat → β) : u.nm.map f = (List.range u.rows.length).map fun r => f (u.name r) := by
  apply List.ext_getElem?
  intro j
  rw [List.getElem?_map, List.getElem?_map]
  have hl := hu.len
  by_cases hj : j < u.rows.length
  · rw [List.getElem?_range hj, List.getElem?_eq_getElem (by omega)]
    unfold T.name
    simp [List.getD_eq_getElem?_getD, show j < u.nm.length by omega]
  · rw [List.getElem?_eq_none (by omega), List.getElem?_eq_none (by simpa using hj)]
    rfl
section
variable {o u : T} (ho : o.Ok) (hu : u.Ok) (lack : Bool) {N : VS.Env → Prop} {T1 : D → VS.Env → Prop} {B C : VS.Env → Prop} {X : ExcV → VS.Env → Prop}
include ho hu
/-- the first loop: one row of the table -/
theorem first_body {c : Nat} (hc : c < o.rows.length) {kn W : List D} (hkn : kn.length ≤ 1000) (hW : W.length ≤ 2000) (hWp : pures W = true) {x6 x9 x10 x11 : Option D}
    (h : N [some o.enc, some u.enc, some (.bl lack), some (.lst (kn ++ [rowD u.rows.length (K0 o u (lk lack)) c])), some (.lst (W ++ (((List.range u.rows.length).filter fun r => part2 (lk lack) o u (c, r)).map fun r => pD (c, r)))), some (nD c),
      some (.lst ((List.range u.rows.length).map fun r => D.bl (part2 (lk lack) o u (c, r)))), none, none, x9, x10, x11, none, none, none]) :
    SW (b_law_lengths_4 [some o.enc, some u.enc, some (.bl lack), some (.lst kn), some (.lst W), some (nD c), x6, none, none, x9, x10, x11, none, none, none]) N T1 B C X := by
  have hlim : LIM = 1000000 := rfl
  have hn1 := hu.n1
  have hlen := hu.len
  walk_at "vc"
  refine RW_lcMap nT (fun nm => D.bl (ptOf (lk lack) (o.name c) nm)) ?_
  walk_at "vc"
  refine OW_ixTl (x := .tup (u.nm.map nT)) rfl ?_
  walk_at "vc"
  refine OW_itemsT (by simp) ?_
  refine ⟨u.nm, rfl, by omega, fun nm hnm => ?_, ?_⟩
  · walk_at "vc"
    refine ⟨rfl, ?_⟩
    walk_at "vc"
    refine OW_ixTl (x := .tup (o.nm.map nT)) rfl ?_
    walk_at "vc"
    refine OW_ixT (x := o.name c) (by
      unfold T.name
      simp [List.getD_eq_getElem?_getD, show c < o.nm.length by rw [ho.len]; exact hc]) ?_
    walk_at "vc"
    refine FW_eq (isparted_ok (o.name c) nm (by have := hu.nml nm hnm; omega) lack) ?_
    exact ⟨rfl, rfl⟩
  rw [nm_map hu]
  walk_at "vc"
  refine RW_lcMapP (fun r => D.bl (part2 (lk lack) o u (c, r))) (fun r => oD (K0 o u (lk lack) (c, r))) rfl rfl ?_
  refine OW_iPl rfl ?_
  refine OW_lVar ?_
  refine ⟨_, rfl, by simp, List.range u.rows.length, rfl, by simp; omega, fun r hr => ?_, ?_⟩
  · walk_at "vc"
    refine ⟨rfl, ?_⟩
    walk_at "vc"
    refine ⟨fun z => ?_, fun z => ?_⟩
    · walk_at "vc"
      refine ⟨?_, rfl⟩
      unfold K0
      rw [z]; rfl
    · walk_at "vc"
      refine ⟨?_, rfl⟩
      unfold K0
      rw [z]; rfl
  walk_at "nrm"
  refine ex_app rfl (by omega) ?_
  walk_at "nrm"
  walk_at "vc"
  refine RW_eMeth rfl ?_
  refine RW_lcFilter nD (fun r => pD (c, r)) (fun r => part2 (lk lack) o u (c, r)) ?_
  walk_at "vc"
  refine ex_rng (by simp; omega) ?_
  refine ⟨List.range u.rows.length, by simp, by simp; omega, fun r hr => ?_, ?_⟩
  · have hr := List.mem_range.mp hr
    walk_at "vc"
    refine OW_ixL (f := fun r => D.bl (part2 (lk lack) o u (c, r))) (x := r) (List.getElem?_range hr) ?_
    walk_at "vc"
    refine ⟨rfl, fun z => ?_, fun z => ?_⟩
    · walk_at "vc"
      exact ⟨rfl, rfl⟩
    · walk_at "nrm"
  refine ⟨_, rfl, ?_⟩
  refine OW_mExt hWp (by simp) (by
    have h1 := List.length_filter_le (fun r => part2 (lk lack) o u (c, r)) (List.range u.rows.length)
    rw [List.length_range] at h1
    rw [List.length_map]
    omega) ?_
  walk_at "nrm"
  exact h
end
end K91

set_option maxRecDepth 100000
set_option maxHeartbeats 2000000
namespace K91
open PySem L2 VS
theorem len_nm {o : T} (ho : o.Ok) {Q : D → Prop} (q : Q (nD o.rows.length)) : OW (oLen (.tup (o.nm.map nT))) Q := by
  refine OW_lenTm ?_
  rw [ho.len]; exact q
def sBack (o u : T) (i : Nat) : P2 → Option Nat := Bfs.back (preP o u) (o.rows.length * u.rows.length) 0 (K0 o u i, W0 o u i o.rows.length)
theorem lengths_ok {o u : T} (ho : o.Ok) (hu : u.Ok) (hk : u.k = o.k) (lack : Bool) : FW (f_law_lengths [o.enc, u.enc, .bl lack]) (fun r os => r = tabD o.rows.length u.rows.length (sBack o u (lk lack)) ∧ os = [none, none, none]) fun _ _ => False := by
  have hn1 := ho.n1
  have hm1 := hu.n1
  have hk1 := ho.k1
  have hmul : o.rows.length * u.rows.length ≤ 1600 := Nat.mul_le_mul hn1 hm1
  have hlim : LIM = 1000000 := rfl
  have Pk := pre_ok ho hu hk
  walk_at "def"
  walk_at "vc"
  refine SW_for (fun c E => ∃ x5 x6 , E = [some o.enc, some u.enc, some (.bl lack), some (.lst ((List.range c).map (rowD u.rows.length (K0 o u (lk lack))))), some (WD (W0 o u (lk lack) c)), x5, x6, none, none, none, none, none, none, none, none]) ?_
  walk_at "vc"
  refine OW_ixTl (x := .tup (o.nm.map nT)) rfl ?_
  refine len_nm ho ?_
  walk_at "vc"
  refine ex_rng (by omega) ?_
  refine ⟨⟨none, none, rfl⟩, ?_, ?_⟩
  · rintro c y E hy ⟨x5, x6, rfl⟩
    obtain ⟨hc, rfl⟩ := at_rng hy
    refine OW_bName (E1 := [some o.enc, some u.enc, some (.bl lack), some (.lst ((List.range c).map (rowD u.rows.length (K0 o u (lk lack))))), some (WD (W0 o u (lk lack) c)), some (nD c), x6, none, none, none, none, none, none, none, none]) rfl rfl ?_
    have hWl : (W0 o u (lk lack) c).length ≤ 1600 := by
      have h1 := good_len (o := o) (u := u) (W := (W0 o u (lk lack) c).map fun q => (q, [])) ⟨by
        rw [List.map_map]
        have : ((fun x : P2 × List Nat => x.1) ∘ fun q : P2 => (q, ([] : List Nat))) = id := rfl
        rw [this, List.map_id]
        exact W0_nodup c, fun x hx => by
        obtain ⟨q, hq, rfl⟩ := List.mem_map.mp hx
        have := W0_mem.mp hq
        exact ⟨show q.1 < o.rows.length by have := this.1; omega, this.2.1⟩⟩
      rw [List.length_map] at h1
      omega
    refine first_body ho hu lack hc (by simp; omega) (by rw [List.length_map]; omega) (by simp) ?_
    refine ⟨some (nD c), some (.lst ((List.range u.rows.length).map fun r => D.bl (part2 (lk lack) o u (c, r)))), ?_⟩
    unfold WD W0
    rw [List.range_succ, List.map_append, List.flatMap_append, List.map_append]
    simp [Function.comp_def]
  · rintro E ⟨x5, x6, rfl⟩
    rw [List.length_map, List.length_range]
    walk_at "vc"
    refine SW_par ?_
    walk_at "vc"
    refine FW_eq (into_ok ho) ?_
    walk_at "vc"
    refine FW_eq (into_ok hu) ?_
    walk_at "vc"
    refine OW_put2 (E1 := envB o u (.bl lack) (K0 o u (lk lack), W0 o u (lk lack) o.rows.length) x5 x6 (some (IO o)) (some (IO u)) none none none none) rfl rfl rfl ?_
    walk_at "vc"
    refine SW_for (fun i E => ∃ K W top x5 x6 x9 x10 x11 x12, E = envB o u (.bl lack) (K, W) x5 x6 (some (IO o)) (some (IO u)) x9 x10 x11 x12 ∧ Bfs.BInv (st2 o u) o.k (part2 (lk lack) o u) (Rg o u) (preP o u) K W i top ∧ (∀ p, W[i]? = some p → top ≤ (K p).getD 0 + 1) ∧ Bfs.back (preP o u) (o.rows.length * u.rows.length - i) i (K, W) = sBack o u (lk lack)) ?_
    unfold envB
    walk_at "vc"
    refine OW_ixTl (x := .tup (o.nm.map nT)) rfl ?_
    refine len_nm ho ?_
    walk_at "vc"
    refine OW_ixTl (x := .tup (u.nm.map nT)) rfl ?_
    refine len_nm hu ?_
    refine OW_muln (by omega) ?_
    walk_at "vc"
    refine ex_rng (by omega) ?_
    refine ⟨⟨_, _, 0, x5, x6, none, none, none, none, rfl, binv0, fun _ _ => Nat.zero_le _, rfl⟩, ?_, ?_⟩
    · rintro i y E hy ⟨K, W, top, x5, x6, x9, x10, x11, x12, rfl, I, ht, hb⟩
      obtain ⟨hi, rfl⟩ := at_rng hy
      have hWl := binv_len I
      walk_at "vc"
      refine OW_lenLm ?_
      walk_at "vc"
      refine ⟨fun z => ?_, fun z => ?_⟩
      · have z := of_decide_eq_true z
        walk_at "vc"
        refine ⟨?_, rfl⟩
        rw [← hb, show o.rows.length * u.rows.length - i = (o.rows.length * u.rows.length - i - 1) + 1 by omega]
        unfold Bfs.back
        rw [List.getElem?_eq_none (by exact z)]
      · have z := of_decide_eq_false z
        obtain ⟨p, hp⟩ : ∃ p, W[i]? = some p := ⟨_, List.getElem?_eq_getElem (by omega)⟩
        obtain ⟨kp, hL, J, hy⟩ := Bfs.binv_next Pk I ht hp
        walk_at "vc"
        refine OW_ixL (f := pD) hp ?_
        walk_at "vc"
        have hpR := I.inR p (List.mem_of_getElem? hp)
        refine SW_for (fun a E => ∃ x5 x11 x12, E = envB o u (.bl lack) (((List.range a).flatMap fun a => (lefts o a p.1).flatMap fun l => (lefts u a p.2).map fun r => (l, r)).foldl (Bfs.relax p) (K, W)) x5 x6 (some (IO o)) (some (IO u)) (some (nD i)) (some (pD p)) x11 x12) ?_
        walk_at "vc"
        refine OW_ixTl (x := nD o.k) rfl ?_
        walk_at "vc"
        refine ex_rng (by omega) ?_
        refine ⟨⟨x5, x11, x12, rfl⟩, ?_, ?_⟩
        · rintro a y E hy2 ⟨x5, x11, x12, rfl⟩
          obtain ⟨ha, rfl⟩ := at_rng hy2
          refine OW_bName (E1 := envB o u (.bl lack) (((List.range a).flatMap fun a => (lefts o a p.1).flatMap fun l => (lefts u a p.2).map fun r => (l, r)).foldl (Bfs.relax p) (K, W)) x5 x6 (some (IO o)) (some (IO u)) (some (nD i)) (some (pD p)) (some (nD a)) x12) rfl rfl ?_
          refine loopL hpR hk (kp := kp) (fun L h => ⟨(hL L h).1, by have := binv_len (hL L h).2; omega⟩) (fun q hq => ?_) ha ?_
          · unfold preP
            simp only [List.mem_flatMap, List.mem_range] at hq ⊢
            obtain ⟨a', ha', h⟩ := hq
            exact ⟨a', by omega, h⟩
          · intro x5 x12
            refine ⟨x5, some (nD a), x12, ?_⟩
            rw [List.range_succ, List.flatMap_append]
            simp
        · rintro E ⟨x5, x11, x12, rfl⟩
          rw [List.length_map, List.length_range]
          refine ⟨_, _, kp + 1, x5, x6, some (nD i), some (pD p), x11, x12, rfl, J, hy, ?_⟩
          rw [← hb, show o.rows.length * u.rows.length - i = (o.rows.length * u.rows.length - (i + 1)) + 1 by omega]
          conv => rhs; unfold Bfs.back
          rw [hp]
          rfl
    · rintro E ⟨K, W, top, x5, x6, x9, x10, x11, x12, rfl, I, ht, hb⟩
      rw [List.length_map, List.length_range, Nat.sub_self] at hb
      walk_at "vc"
      refine ⟨?_, rfl⟩
      rw [← hb]
      rfl
end K91

set_option maxRecDepth 100000
set_option maxHeartbeats 2000000
namespace K91
open PySem L2 VS
theorem eq_oD {x : Option Nat} {m : Nat} {Q : D → Prop} (q : Q (.bl (decide (x = some m)))) : OW (oEq (oD x) (nD m)) Q := by
  cases x with
  | none => exact OW_eq (x := .bl false) (by simp [oD, nD, oEq, eqD, D.toP, PyData.eqv]) q
  | some n =>
    refine OW_eqn ?_
    have e : decide (n = m) = decide (some n = some m) := by simp
    rw [e]; exact q
theorem isN_oD (x : Option Nat) : isN (oD x) = x.isNone := by cases x <;> rfl
theorem due_ok {o u : T} (ho : o.Ok) (hu : u.Ok) (hk : u.k = o.k) (lack : Bool) : FW (f_law_due [o.enc, u.enc, .bl lack]) (fun r os => ∃ w, r = optD w ∧ Bfs.Least (st2 o u) o.k (part2 (lk lack) o u) (0, 0) w ∧ os = [none, none, none]) fun _ _ => False := by
  have hlim : LIM = 1000000 := rfl
  have hk1 := ho.k1
  have h00 : Rg o u (0, 0) := ⟨ho.n0, hu.n0⟩
  have X := lens_ex (i := lk lack) ho hu hk
  generalize hK : Bfs.back (preP o u) (o.rows.length * u.rows.length) 0 (K0 o u (lk lack), W0 o u (lk lack) o.rows.length) = K at X
  have reg : ∀ q a, Rg o u q → a < o.k → Rg o u (st2 o u q a) := (pre_ok ho hu hk).reg
  have Lst := Bfs.due_least reg X (0, 0) h00
  walk_at "def"
  walk_at "vc"
  refine FW_use (lengths_ok ho hu hk lack) ?_
  rintro _ _ ⟨rfl, -⟩
  rw [show sBack o u (lk lack) = K from hK]
  walk_at "vc"
  refine tab_1 h00.1 ?_
  walk_at "vc"
  refine tab_2 h00.2 ?_
  walk_at "vc"
  rw [isN_oD]
  refine ⟨fun z => ?_, fun z => ?_⟩
  · walk_at "vc"
    refine ⟨none, rfl, ?_, rfl⟩
    rw [Option.isNone_iff_eq_none.mp z] at Lst
    exact Lst
  · obtain ⟨n, hn⟩ : ∃ n, K (0, 0) = some n := by
      cases e : K (0, 0) with
      | none => rw [e] at z; cases z
      | some n => exact ⟨n, rfl⟩
    rw [hn] at Lst
    have Lst : Bfs.Least (st2 o u) o.k (part2 (lk lack) o u) (0, 0) (some (Bfs.greedy (st2 o u) o.k K n (0, 0))) := Lst
    have gl := Bfs.greedy_least reg X n (0, 0) h00 hn
    have hlk : lk lack = 0 ∨ lk lack = 1 := by cases lack <;> simp [lk]
    have hb := least_len ho hu hk hlk Lst
    rw [gl.1] at hb
    walk_at "vc"
    refine SW_for (fun j E => ∃ w s x7 x8 x9, E = [some o.enc, some u.enc, some (.bl lack), some (tabD o.rows.length u.rows.length K), some (nT w), some (nD s.1), some (nD s.2), x7, x8, x9] ∧ Rg o u s ∧ K s = some (n - j) ∧ w ++ Bfs.greedy (st2 o u) o.k K (n - j) s = Bfs.greedy (st2 o u) o.k K n (0, 0)) ?_
    refine RW_iR3 ?_
    walk_at "vc"
    refine tab_1 h00.1 ?_
    walk_at "vc"
    refine tab_2 h00.2 ?_
    rw [hn]
    walk_at "vc"
    refine OW_eq (x := .int (-1)) rfl ?_
    walk_at "vc"
    refine ⟨n, 0, rfl, by omega, by omega, ⟨[], (0, 0), none, none, none, rfl, h00, hn, rfl⟩, ?_, ?_⟩
    · rintro j y E hy ⟨w, s, x7, x8, x9, rfl, hs, hKs, hw⟩
      obtain ⟨j', hj, rfl⟩ := at_map hy
      obtain ⟨hj1, hj2⟩ := List.getElem?_eq_some_iff.mp hj
      rw [List.getElem_range] at hj2
      subst hj2
      rw [List.length_range] at hj1
      obtain ⟨m, hm⟩ : ∃ m, n - j = m + 1 := ⟨n - j - 1, by omega⟩
      have hwl : w.length ≤ n := by
        have := congrArg List.length hw
        rw [List.length_append, gl.1] at this
        omega
      rw [hm] at hKs hw ⊢
      have hnx : n - (j + 1) = m := by omega
      rw [hnx]
      walk_at "vc"
      refine SW_for (fun a E => ∃ x8 x9, (∀ b, b < a → K (st2 o u s b) ≠ some m) ∧ E = [some o.enc, some u.enc, some (.bl lack), some (tabD o.rows.length u.rows.length K), some (nT w), some (nD s.1), some (nD s.2), some (nD (m + 1)), x8, x9]) ?_
      walk_at "vc"
      refine OW_ixTl (x := nD o.k) rfl ?_
      walk_at "vc"
      refine ex_rng (by omega) ?_
      refine ⟨⟨x8, x9, fun b hb => by omega, rfl⟩, ?_, ?_⟩
      · rintro a y E hy2 ⟨x8, x9, hno, rfl⟩
        obtain ⟨ha, rfl⟩ := at_rng hy2
        obtain ⟨R1, r1, a1, a2, a3⟩ := ix_rows3 ho hs.1 ha
        obtain ⟨R2, r2, b1, b2, b3⟩ := ix_rows3 hu hs.2 (a := a) (by omega)
        have hst : Rg o u (st2 o u s a) := reg s a hs ha
        walk_at "vc"
        refine OW_eq a1 ?_
        walk_at "vc"
        refine OW_eq a2 ?_
        walk_at "vc"
        refine OW_eq a3 ?_
        walk_at "vc"
        refine OW_eq b1 ?_
        walk_at "vc"
        refine OW_eq b2 ?_
        walk_at "vc"
        refine OW_eq b3 ?_
        walk_at "vc"
        refine OW_ixTl (x := nD (o.step s.1 a)) rfl ?_
        refine tab_1 hst.1 ?_
        walk_at "vc"
        refine OW_ixTl (x := nD (u.step s.2 a)) rfl ?_
        refine tab_2 hst.2 ?_
        walk_at "vc"
        refine OW_subn (by omega) ?_
        refine eq_oD ?_
        walk_at "vc"
        refine ⟨fun z => ?_, fun z => ?_⟩
        · have z := of_decide_eq_true z
          walk_at "vc"
          refine SW_par ?_
          walk_at "vc"
          refine OW_addT (by rw [List.length_map, hlim]; simp; omega) (pures_nD _) (by simp) ?_
          walk_at "vc"
          refine OW_ixTl (x := nD (o.step s.1 a)) rfl ?_
          walk_at "vc"
          refine OW_ixTl (x := nD (u.step s.2 a)) rfl ?_
          walk_at "vc"
          refine OW_put3 (E1 := [some o.enc, some u.enc, some (.bl lack), some (tabD o.rows.length u.rows.length K), some (nT (w ++ [a])), some (nD (o.step s.1 a)), some (nD (u.step s.2 a)), some (nD (m + 1)), some (nD a), some (.tup [nD (o.step s.1 a), nD (u.step s.2 a)])]) rfl rfl rfl (by simp [nT]) ?_
          refine SW_bk ?_
          have z : K (st2 o u s a) = some m := z
          refine ⟨w ++ [a], st2 o u s a, _, _, _, rfl, hst, z, ?_⟩
          rw [← hw, List.append_assoc]
          congr 1
          conv => rhs; unfold Bfs.greedy
          rw [List.find?_range_eq_some.mpr ⟨by simpa using z, List.mem_range.mpr ha, fun b hb => by simpa using hno b hb⟩]
          rfl
        · have z := of_decide_eq_false z
          walk_at "vc"
          refine ⟨some (nD a), _, fun b hb => ?_, rfl⟩
          by_cases e : b = a
          · subst e; exact z
          · exact hno b (by omega)
      · rintro E ⟨x8, x9, hno, rfl⟩
        rw [List.length_map, List.length_range] at hno
        obtain ⟨a, ha, e⟩ := Bfs.ex_next reg X hs hKs
        exact absurd e (hno a ha)
    · rintro E ⟨w, s, x7, x8, x9, rfl, hs, hKs, hw⟩
      rw [List.length_map, List.length_range, Nat.sub_zero, Nat.sub_self] at hw
      walk_at "vc"
      refine ⟨some w, rfl, ?_, rfl⟩
      rw [show w = Bfs.greedy (st2 o u) o.k K n (0, 0) from by rw [← hw]; simp [Bfs.greedy]]
      exact Lst
end K91

set_option maxRecDepth 100000
set_option maxHeartbeats 2000000
namespace K91
open PySem L2 VS
theorem few_trial2 (d : D) (k m : Nat) (hd : St d) (hk0 : 0 < k) (hk : k ≤ 8) (hm0 : 0 < m) (hm : m ≤ 40) : FW (f_law_few_trial [d, nD k, nD m]) (fun r o => ∃ (t : T) (d' : D), r = t.enc ∧ o = [some d', none, none] ∧ St d' ∧ t.Ok ∧ t.k = k ∧ t.rows.length = m ∧ ∀ l ∈ t.nm, l.length ≤ 5) fun _ _ => False := by
  obtain ⟨rows, d1, e1, s1, l1, r1⟩ := rows_ok d k m hd (by omega) hm0 (by omega)
  obtain ⟨nm, d2, e2, s2, l2, r2⟩ := few_names_ok d1 m s1 (by omega)
  walk_at "def"
  walk_at "vc"
  refine FW_eq e1 ?_
  walk_at "nrm"
  walk_at "vc"
  refine FW_eq e2 ?_
  walk_at "nrm"
  walk_at "vc"
  refine ⟨⟨k, rows, nm⟩, d2, rfl, rfl, s2, ⟨hk0, hk, l2.trans l1.symm, l1 ▸ hm0, l1 ▸ hm, fun r hr => by
    have := r1 r hr
    exact ⟨this.1, fun a ha => l1 ▸ this.2 a ha⟩, fun l hl => by have := r2 l hl; omega⟩, rfl, l1, r2⟩
theorem rare_ok (d : D) (hd : St d) : FW (f_law_rare [d, nD 21]) (fun r o => ∃ (b : Bool) (d' : D), r = .bl b ∧ o = [some d', none] ∧ St d') fun _ _ => False := by
  walk_at "def"
  walk_at "vc"
  refine FW_use (drawN d 21 hd (by omega) (by omega)) ?_
  rintro _ _ ⟨v, d', rfl, rfl, s, hv⟩
  walk_at "nrm"
  walk_at "vc"
  refine OW_divn (by decide) (by decide) ?_
  walk_at "vc"
  exact ⟨_, d', rfl, rfl, s⟩
theorem shuffled_ok (d : D) (hd : St d) (row : List Nat) (hl : row.length ≤ 1000) : FW (f_law_shuffled [d, .lst (row.map nD)]) (fun r o => ∃ (xs : List Nat) (d' : D), r = .lst (xs.map nD) ∧ o = [some d', some (.lst (row.map nD))] ∧ St d' ∧ xs.Perm row) fun _ _ => False := by
  have hlim : LIM = 1000000 := rfl
  walk_at "def"
  walk_at "vc"
  refine OW_eq (x := .lst (row.map nD)) (by show (if pures (row.map nD) = true then _ else _) = _; rw [if_pos (pures_nD _)]) ?_
  walk_at "vc"
  refine SW_for (fun i E => ∃ (d' : D) (l f : List Nat) (x : Option D), E = [some d', some (.lst (row.map nD)), some (.lst (l.map nD)), some (.lst (f.map nD)), x] ∧ St d' ∧ f.length = i ∧ (f ++ l).Perm row) ?_
  walk_at "vc"
  refine ex_rng (by omega) ?_
  refine ⟨⟨d, row, [], none, rfl, hd, rfl, List.Perm.refl _⟩, ?_, ?_⟩
  · rintro j y E hy ⟨d', l, f, x, rfl, s, hf, hp⟩
    obtain ⟨hj, rfl⟩ := at_rng hy
    have hpl := hp.length_eq
    rw [List.length_append] at hpl
    walk_at "vc"
    refine RW_eMeth rfl ?_
    walk_at "vc"
    refine FW_use (drawN d' l.length s (by omega) (by omega)) ?_
    rintro _ _ ⟨v, d2, rfl, rfl, s2, hv⟩
    walk_at "nrm"
    refine ⟨_, rfl, ?_⟩
    refine OW_mPop (pures_nD _) (x := nD l[v]) (by simp [hv]) (by omega) ?_
    walk_at "nrm"
    refine ex_app rfl (by simp; omega) ?_
    walk_at "nrm"
    refine ⟨d2, l.eraseIdx v, f ++ [l[v]], some (nD j), ?_, s2, by simp [hf], ?_⟩
    · rw [List.map_append, map_erase]
      rfl
    · refine List.Perm.trans ?_ hp
      rw [List.append_assoc]
      exact List.Perm.append_left f (perm_erase l v hv)
  · rintro E ⟨d', l, f, x, rfl, s, hf, hp⟩
    rw [List.length_map, List.length_range] at hf
    have hpl := hp.length_eq
    rw [List.length_append] at hpl
    have : l = [] := List.eq_nil_of_length_eq_zero (by omega)
    subst this
    walk_at "vc"
    rw [List.append_nil] at hp
    exact ⟨f, d', rfl, rfl, s, hp⟩
theorem met_ok (rows : List (List Nat)) (h0 : 0 < rows.length) (hr : ∀ r ∈ rows, r.length ≤ 8 ∧ ∀ a ∈ r, a < rows.length) : FW (f_law_met [.lst (rows.map nT)]) (fun r o => ∃ (xs : List Nat), r = .lst (xs.map nD) ∧ o = [some (.lst (rows.map nT))]) fun _ _ => False := by
  have hlim : LIM = 1000000 := rfl
  walk_at "def"
  walk_at "vc"
  refine SW_for (fun i E => ∃ (f : List Nat) (x y : Option D), E = [some (.lst (rows.map nT)), some (.lst (f.map nD)), x, y] ∧ f.length ≤ 1 + 8 * i ∧ ∀ a ∈ f, a < rows.length) ?_
  walk_at "vc"
  refine ex_rng (by omega) ?_
  refine ⟨⟨[0], none, none, rfl, by simp, fun a ha => by simp at ha; omega⟩, ?_, ?_⟩
  · rintro j y E hy ⟨f, x, y2, rfl, hf, hfl⟩
    obtain ⟨hj, rfl⟩ := at_rng hy
    walk_at "vc"
    refine ⟨fun z => ?_, fun z => ?_⟩
    · walk_at "vc"
      exact ⟨f, rfl, rfl⟩
    · have z := of_decide_eq_false z
      have hjf : j < f.length := by omega
      have hrow := hr _ (List.getElem_mem (hfl _ (List.getElem_mem hjf)))
      walk_at "vc"
      refine SW_for (fun i E => ∃ (f : List Nat) (y : Option D), E = [some (.lst (rows.map nT)), some (.lst (f.map nD)), some (nD j), y] ∧ f.length ≤ 1 + 8 * j + i ∧ ∀ a ∈ f, a < rows.length) ?_
      walk_at "vc"
      refine OW_ixLi hjf ?_
      refine OW_ixLi (hfl _ (List.getElem_mem hjf)) ?_
      walk_at "vc"
      refine OW_itemsT (pures_nD _) ?_
      refine ⟨⟨f, y2, rfl, by omega, hfl⟩, ?_, ?_⟩
      · rintro i y E hy ⟨f, y3, rfl, hf, hfl⟩
        obtain ⟨a, ha, rfl⟩ := at_map hy
        have hil := (List.getElem?_eq_some_iff.mp ha).1
        walk_at "vc"
        refine OW_inL ?_
        walk_at "vc"
        refine ⟨fun z => ?_, fun z => ?_⟩
        · walk_at "vc"
          refine ex_app rfl (by simp; omega) ?_
          walk_at "nrm"
          refine ⟨f ++ [a], _, by rw [List.map_append]; rfl, by simp; omega, fun b hb => ?_⟩
          rcases List.mem_append.mp hb with h | h
          · exact hfl b h
          · simp at h; subst h; exact hrow.2 _ (List.mem_of_getElem? ha)
        · walk_at "vc"
          exact ⟨f, _, rfl, by omega, hfl⟩
      · rintro E ⟨f, y3, rfl, hf, hfl⟩
        rw [List.length_map] at hf
        exact ⟨f, _, _, rfl, by omega, hfl⟩
  · rintro E ⟨f, x, y, rfl, hf, hfl⟩
    walk_at "vc"
    exact ⟨f, rfl, rfl⟩
end K91

set_option maxRecDepth 100000
set_option maxHeartbeats 2000000
namespace K91
open PySem L2 VS
theorem T.Ok.row_at {t : T} (h : t.Ok) {l : Nat} (hl : l < t.rows.length) {Q : D → Prop} (q : ∀ r, t.rows[l]? = some r → r.length = t.k → (∀ a ∈ r, a < t.rows.length) → Q (nT r)) : OW (oIx (.tup (t.rows.map nT)) (nD l)) Q := by
  refine OW_ixTi hl (q _ (List.getElem?_eq_getElem hl) (h.row _ (List.getElem_mem hl)).1 (h.row _ (List.getElem_mem hl)).2)
theorem T.Ok.nm_at {t : T} (h : t.Ok) {l : Nat} (hl : l < t.rows.length) {Q : D → Prop} (q : Q (nT (t.name l))) : OW (oIx (.tup (t.nm.map nT)) (nD l)) Q := by
  refine OW_ixT (x := t.name l) ?_ q
  unfold T.name
  rw [List.getD_eq_getElem?_getD, List.getElem?_eq_getElem (by rw [h.len]; exact hl)]
  rfl
theorem T.name_mem {t : T} (h : t.Ok) {l : Nat} (hl : l < t.rows.length) : t.name l ∈ t.nm := by
  unfold T.name
  rw [List.getD_eq_getElem?_getD, List.getElem?_eq_getElem (by rw [h.len]; exact hl)]
  exact List.getElem_mem _
theorem twins_ok (d : D) (hd : St d) {t : T} (ht : t.Ok) (hm : t.rows.length ≤ 20) (hn : ∀ l ∈ t.nm, l.length ≤ 5) : FW (f_law_twins [d, t.enc]) (fun r o => ∃ (u : T) (d' : D), r = u.enc ∧ o = [some d', none] ∧ St d' ∧ u.Ok ∧ u.k = t.k ∧ ∀ l ∈ u.nm, l.length ≤ 5) fun _ _ => False := by
  have hlim : LIM = 1000000 := rfl
  have hk1 := ht.k1
  have h0 := ht.n0
  walk_at "def"
  walk_at "vc"
  refine OW_ixTl (x := .tup (t.nm.map nT)) rfl ?_
  refine len_nm ht ?_
  generalize hmm : t.rows.length = m at hm h0
  walk_at "vc"
  refine OW_fLR2 ?_
  walk_at "vc"
  refine OW_muln (by decide) ?_
  refine ⟨1, 2 * m, rfl, rfl, by omega, by omega, ?_⟩
  rw [show (List.range (2 * m - 1)).map (fun k => nD (1 + k)) = ((List.range (2 * m - 1)).map (fun k => 1 + k)).map nD by simp [Function.comp_def]]
  walk_at "vc"
  refine FW_use (shuffled_ok d hd _ (by simp; omega)) ?_
  rintro _ _ ⟨xs, d1, rfl, rfl, s1, hp⟩
  walk_at "nrm"
  refine OW_addL (by rw [List.length_map, hp.length_eq]; simp; omega) (by simp) (by simp) ?_
  rw [show [nD 0] ++ xs.map nD = (0 :: xs).map nD by rfl]
  generalize hord : 0 :: xs = ord
  have hol : ord.length = 2 * m := by
    rw [← hord, List.length_cons, hp.length_eq]
    simp; omega
  have hom : ∀ x, x ∈ ord ↔ x < 2 * m := fun x => by
    rw [← hord, List.mem_cons, hp.mem_iff]
    simp only [List.mem_map, List.mem_range]
    constructor
    · rintro (h | ⟨a, h1, h2⟩) <;> omega
    · intro h
      by_cases e : x = 0
      · exact .inl e
      · exact .inr ⟨x - 1, by omega, by omega⟩
  walk_at "vc"
  refine RW_eLc (fun i acc E => ∃ ps : List Nat, acc = ps.map nD ∧ E = [some d1, some t.enc, some (nD m), some (.lst (ord.map nD)), none, none, none, none, none, none, none] ∧ ps.length = i ∧ ∀ p ∈ ps, p < 2 * m) ?_
  walk_at "vc"
  refine OW_muln (by decide) ?_
  walk_at "vc"
  refine ex_rng (by omega) ?_
  refine ⟨⟨[], rfl, rfl, rfl, by simp⟩, by simp; omega, ?_, ?_⟩
  · rintro j y acc E hy ha ⟨ps, rfl, rfl, hl, hps⟩
    obtain ⟨hj, rfl⟩ := at_rng hy
    walk_at "vc"
    refine ⟨fun _ => ?_, fun z => nomatch z⟩
    walk_at "vc"
    refine OW_index ((hom j).mpr hj) ?_
    intro k hk
    refine ⟨ps ++ [k], by simp, rfl, by simp [hl], fun p hp => ?_⟩
    rcases List.mem_append.mp hp with h | h
    · exact hps p h
    · simp at h
      subst h
      have := (List.getElem?_eq_some_iff.mp hk).1
      omega
  rintro _ _ ⟨ps, rfl, rfl, hpl, hps⟩
  rw [List.length_map, List.length_range] at hpl
  walk_at "vc"
  refine SW_forP rfl ?_
  refine OW_iPl rfl ?_
  refine OW_lVar ?_
  refine ⟨_, rfl, by simp, ?_⟩
  refine SW_forL (fun j E => ∃ (d' : D) (rs : List (List Nat)) (x : Option D), E = [some d', some t.enc, some (nD m), none, some (.lst (ps.map nD)), some (.lst (rs.map nT)), x, none, none, none, none] ∧ St d' ∧ rs.length = j ∧ ∀ r ∈ rs, r.length = t.k ∧ ∀ a ∈ r, a < 2 * m) _ 0 _ ⟨d1, [], none, rfl, s1, rfl, by simp⟩ ?_ ?_
  · rintro j y E hy ⟨d', rs, x, rfl, s, hl, hrs⟩
    rw [Nat.zero_add] at hl ⊢
    obtain ⟨tw, htw, rfl⟩ := at_map hy
    have htl := (hom tw).mp (List.mem_of_getElem? htw)
    have hjl := (List.getElem?_eq_some_iff.mp htw).1
    walk_at "vc"
    refine RW_eLc (fun i acc E => ∃ (d' : D) (r : List Nat), acc = r.map nD ∧ E = [some d', some t.enc, some (nD m), none, some (.lst (ps.map nD)), some (.lst (rs.map nT)), some (nD tw), none, none, none, none] ∧ St d' ∧ r.length = i ∧ ∀ p ∈ r, p < 2 * m) ?_
    walk_at "vc"
    refine OW_ixTl (x := .tup (t.rows.map nT)) rfl ?_
    walk_at "vc"
    refine OW_divn (by decide) (by decide) ?_
    refine ht.row_at (by omega) ?_
    intro r hr hrl hra
    walk_at "vc"
    refine OW_itemsT (pures_nD _) ?_
    refine ⟨⟨d', [], rfl, rfl, s, rfl, by simp⟩, by simp; omega, ?_, ?_⟩
    · rintro i y acc E hy ha ⟨d', r2, rfl, rfl, s, hl2, hr2⟩
      obtain ⟨a, haa, rfl⟩ := at_map hy
      have ham := hra a (List.mem_of_getElem? haa)
      walk_at "vc"
      refine ⟨fun _ => ?_, fun z => nomatch z⟩
      refine RW_eIxV rfl ?_
      walk_at "vc"
      refine OW_muln (by decide) ?_
      walk_at "vc"
      refine FW_use (drawN d' 2 s (by omega) (by omega)) ?_
      rintro _ _ ⟨v, d2, rfl, rfl, s2, hv⟩
      walk_at "nrm"
      walk_at "vc"
      refine ⟨_, rfl, ?_⟩
      refine OW_ixLi (by omega) ?_
      walk_at "vc"
      refine ⟨d2, r2 ++ [ps[2 * a + v]], by simp, rfl, s2, by simp [hl2], fun p hp => ?_⟩
      rcases List.mem_append.mp hp with h | h
      · exact hr2 p h
      · simp at h
        subst h
        exact hps _ (List.getElem_mem _)
    · rintro _ _ ⟨d', r2, rfl, rfl, s, hl2, hr2⟩
      rw [List.length_map] at hl2
      refine OW_tupP (pures_nD _) ?_
      refine ex_app rfl (by rw [List.length_map]; omega) ?_
      walk_at "nrm"
      refine ⟨d', rs ++ [r2], _, by rw [List.map_append]; rfl, s, by simp [hl], fun q hq => ?_⟩
      rcases List.mem_append.mp hq with h | h
      · exact hrs q h
      · simp at h
        subst h
        exact ⟨by omega, hr2⟩
  rintro _ ⟨d2, rs, x, rfl, s2, hrl, hrs⟩
  rw [List.length_map, hol, Nat.zero_add] at hrl
  walk_at "nrm"
  walk_at "vc"
  refine RW_lcMapP nD (fun tw => nT (t.name (tw / 2))) rfl rfl ?_
  refine OW_iPl rfl ?_
  refine OW_lVar ?_
  refine ⟨_, rfl, by simp, ord, rfl, by omega, fun tw htw => ?_, ?_⟩
  · have htl := (hom tw).mp htw
    walk_at "nrm"
    walk_at "vc"
    refine ⟨rfl, ?_⟩
    walk_at "vc"
    refine OW_ixTl (x := .tup (t.nm.map nT)) rfl ?_
    walk_at "vc"
    refine OW_divn (by decide) (by decide) ?_
    refine ht.nm_at (by omega) ?_
    walk_at "vc"
    exact ⟨rfl, rfl⟩
  walk_at "nrm"
  rw [show List.map (fun tw => nT (t.name (tw / 2))) ord = (ord.map fun tw => t.name (tw / 2)).map nT by simp [Function.comp_def]]
  have hn0 : ∀ l ∈ ord.map (fun tw => t.name (tw / 2)), l.length ≤ 5 := fun l hl => by
    obtain ⟨tw, htw, rfl⟩ := List.mem_map.mp hl
    have htl := (hom tw).mp htw
    exact hn _ (T.name_mem ht (by omega))
  have hnl : (ord.map fun tw => t.name (tw / 2)).length = 2 * m := by rw [List.length_map, hol]
  generalize ord.map (fun tw => t.name (tw / 2)) = nms at hn0 hnl
  walk_at "vc"
  refine FW_use (met_ok rs (by omega) fun r hr => ⟨by have := (hrs r hr).1; omega, fun a ha => by rw [hrl]; exact (hrs r hr).2 a ha⟩) ?_
  rintro _ _ ⟨ms, rfl, rfl⟩
  walk_at "nrm"
  walk_at "vc"
  refine SW_for (fun i E => ∃ (d' : D) (nms : List (List Nat)) (y : Option D), E = [some d', some t.enc, some (nD m), some (.lst (ord.map nD)), some (.lst (ps.map nD)), some (.lst (rs.map nT)), none, some (.lst (nms.map nT)), some (.lst (ms.map nD)), y, none] ∧ St d' ∧ nms.length = 2 * m ∧ ∀ l ∈ nms, l.length ≤ 5) ?_
  walk_at "vc"
  refine ex_rng (by omega) ?_
  refine ⟨⟨d2, nms, none, rfl, s2, hnl, hn0⟩, ?_, ?_⟩
  · rintro j y E hy ⟨d', nms2, y2, rfl, s, hl, hls⟩
    obtain ⟨hj, rfl⟩ := at_rng hy
    walk_at "vc"
    refine OW_inL ?_
    walk_at "vc"
    refine ⟨fun z => ?_, fun z => ?_⟩
    · refine SW_setL ?_
      walk_at "vc"
      obtain ⟨w, d3, e3, s3, l3⟩ := named_ok d' 5 s (by omega)
      refine FW_eq e3 ?_
      walk_at "nrm"
      refine ⟨_, rfl, ?_⟩
      walk_at "vc"
      refine ⟨j, rfl, by rw [List.length_map]; omega, ?_⟩
      walk_at "nrm"
      refine ⟨d3, nms2.set j w, some (nD j), by rw [List.map_set], s3, by simp [hl], fun l hl => ?_⟩
      rcases List.mem_or_eq_of_mem_set hl with h | h
      · exact hls l h
      · subst h; exact l3
    · walk_at "vc"
      exact ⟨d', nms2, _, rfl, s, hl, hls⟩
  · rintro _ ⟨d3, nms2, y, rfl, s3, hl, hls⟩
    walk_at "vc"
    refine OW_ixTl (x := nD t.k) rfl ?_
    walk_at "vc"
    refine OW_tupP (by simp) ?_
    walk_at "vc"
    refine OW_tupP (by simp) ?_
    walk_at "vc"
    refine ⟨⟨t.k, rs, nms2⟩, d3, rfl, rfl, s3, ⟨ht.k0, ht.k1, by show nms2.length = rs.length; omega, by show 0 < rs.length; omega, by show rs.length ≤ 40; omega, fun r hr => ⟨(hrs r hr).1, fun a ha => by show a < rs.length; rw [hrl]; exact (hrs r hr).2 a ha⟩, fun l hl => by have := hls l hl; omega⟩, rfl, hls⟩
theorem renamed_ok (d : D) (hd : St d) {t : T} (ht : t.Ok) (b : Nat) (hb : b ≤ 99) (hn : ∀ l ∈ t.nm, l.length ≤ b) (less : Bool) : FW (f_law_renamed [d, t.enc, .bl less]) (fun r o => ∃ (u : T) (d' : D), r = u.enc ∧ o = [some d', none, none] ∧ St d' ∧ u.Ok ∧ u.k = t.k ∧ ∀ l ∈ u.nm, l.length ≤ b + 1) fun _ _ => False := by
  have hlim : LIM = 1000000 := rfl
  have h0 := ht.n0
  have hn1 := ht.n1
  walk_at "def"
  walk_at "vc"
  refine OW_ixTl (x := .tup (t.nm.map nT)) rfl ?_
  refine OW_eq (x := .lst (t.nm.map nT)) (by show (if pures (t.nm.map nT) = true then _ else _) = _; rw [if_pos (pures_map fun _ _ => pure_nT _)]) ?_
  walk_at "vc"
  refine FW_use (drawN d t.nm.length hd (by rw [ht.len]; exact h0) (by rw [ht.len]; omega)) ?_
  rintro _ _ ⟨st, d1, rfl, rfl, s1, hst⟩
  walk_at "nrm"
  walk_at "vc"
  refine FW_use (drawN d1 5 s1 (by omega) (by omega)) ?_
  rintro _ _ ⟨q, d2, rfl, rfl, s2, hq⟩
  walk_at "nrm"
  walk_at "vc"
  refine OW_ixLi hst ?_
  have fin : ∀ w : List Nat, w.length ≤ b + 1 → ∃ (u : T), u = ⟨t.k, t.rows, t.nm.set st w⟩ ∧ u.Ok ∧ ∀ l ∈ u.nm, l.length ≤ b + 1 := fun w hw => by
    have key : ∀ l ∈ t.nm.set st w, l.length ≤ b + 1 := fun l hl => by
      rcases List.mem_or_eq_of_mem_set hl with h | h
      · have := hn l h; omega
      · subst h; exact hw
    exact ⟨_, rfl, ⟨ht.k0, ht.k1, by show (t.nm.set st w).length = _; rw [List.length_set]; exact ht.len, ht.n0, ht.n1, ht.row, fun l hl => by have := key l hl; omega⟩, key⟩
  have hsn := hn _ (List.getElem_mem hst)
  refine OW_inT ?_
  walk_at "vc"
  refine ⟨fun z => ?_, fun z => ?_⟩
  · refine SW_setL ?_
    walk_at "vc"
    refine RW_lcFilter nD nD (fun a => !decide (a = q)) ?_
    walk_at "vc"
    refine OW_ixLi hst ?_
    walk_at "vc"
    refine OW_itemsT (pures_nD _) ?_
    refine ⟨t.nm[st], rfl, by omega, fun a ha => ?_, ?_⟩
    · walk_at "vc"
      refine ⟨rfl, fun z => ?_, fun z => rfl⟩
      walk_at "vc"
      exact ⟨rfl, rfl⟩
    refine OW_tupP (pures_nD _) ?_
    obtain ⟨u, hu, hu1, hu2⟩ := fin (t.nm[st].filter fun a => !decide (a = q)) (by have := List.length_filter_le (fun a => !decide (a = q)) t.nm[st]; omega)
    refine ⟨_, rfl, ?_⟩
    walk_at "vc"
    refine ⟨st, rfl, by rw [List.length_map]; exact hst, ?_⟩
    walk_at "nrm"
    rw [show (t.nm.map nT).set st (.tup ((t.nm[st].filter fun a => !decide (a = q)).map nD)) = (t.nm.set st (t.nm[st].filter fun a => !decide (a = q))).map nT by rw [List.map_set]; rfl]
    walk_at "vc"
    refine OW_ixTl (x := .str "trial") rfl ?_
    walk_at "vc"
    refine OW_ixTl (x := nD t.k) rfl ?_
    walk_at "vc"
    refine OW_ixTl (x := .tup (t.rows.map nT)) rfl ?_
    walk_at "vc"
    refine OW_tupP (pures_map fun _ _ => pure_nT _) ?_
    walk_at "vc"
    exact ⟨u, d2, by rw [hu]; rfl, rfl, s2, hu1, by rw [hu], hu2⟩
  · walk_at "vc"
    refine ⟨fun z2 => ?_, fun z2 => ?_⟩
    · refine SW_setL ?_
      walk_at "vc"
      refine OW_ixLi hst ?_
      walk_at "vc"
      refine OW_addT (by rw [List.length_map]; simp; omega) (pures_nD _) (by simp) ?_
      rw [show t.nm[st].map nD ++ [nD q] = (t.nm[st] ++ [q]).map nD by simp]
      refine OW_sortedT ?_
      refine OW_tupP (pures_nD _) ?_
      obtain ⟨u, hu, hu1, hu2⟩ := fin (srtN (t.nm[st] ++ [q])) (by rw [(srtN_perm _).length_eq]; simp; omega)
      refine ⟨_, rfl, ?_⟩
      walk_at "vc"
      refine ⟨st, rfl, by rw [List.length_map]; exact hst, ?_⟩
      walk_at "nrm"
      rw [show (t.nm.map nT).set st (.tup ((srtN (t.nm[st] ++ [q])).map nD)) = (t.nm.set st (srtN (t.nm[st] ++ [q]))).map nT by rw [List.map_set]; rfl]
      walk_at "vc"
      refine OW_ixTl (x := .str "trial") rfl ?_
      walk_at "vc"
      refine OW_ixTl (x := nD t.k) rfl ?_
      walk_at "vc"
      refine OW_ixTl (x := .tup (t.rows.map nT)) rfl ?_
      walk_at "vc"
      refine OW_tupP (pures_map fun _ _ => pure_nT _) ?_
      walk_at "vc"
      exact ⟨u, d2, by rw [hu]; rfl, rfl, s2, hu1, by rw [hu], hu2⟩
    · obtain ⟨u, hu, hu1, hu2⟩ := fin (t.nm[st]) (by omega)
      walk_at "vc"
      refine OW_ixTl (x := .str "trial") rfl ?_
      walk_at "vc"
      refine OW_ixTl (x := nD t.k) rfl ?_
      walk_at "vc"
      refine OW_ixTl (x := .tup (t.rows.map nT)) rfl ?_
      walk_at "vc"
      refine OW_tupP (pures_map fun _ _ => pure_nT _) ?_
      walk_at "vc"
      refine ⟨u, d2, ?_, rfl, s2, hu1, by rw [hu], hu2⟩
      rw [hu]
      unfold T.enc
      simp
end K91

set_option maxRecDepth 100000
set_option maxHeartbeats 4000000
namespace K91
open PySem L2 VS
theorem ends_ok {o u : T} (ho : o.Ok) (hu : u.Ok) (hk : u.k = o.k) {N : VS.Env → Prop} {B C : VS.Env → Prop} {X : ExcV → VS.Env → Prop} {a b c : Option D} {x6 : Option D} {T1 : D → VS.Env → Prop} (hT : ∀ E, T1 (.bl true) E) :
    SW (sSeq (sAsg (eF (fTup (fCons (fCall f_law_due (fCons (bP (bV 4)) (fCons (bP (bV 5)) (fCons (bC (.bl false)) fNil)))) (fCons (fCall f_law_due (fCons (bP (bV 4)) (fCons (bP (bV 5)) (fCons (bC (.bl true)) fNil)))) (fCons (fCall f_law_due (fCons (bP (bV 5)) (fCons (bP (bV 4)) (fCons (bC (.bl true)) fNil)))) fNil))))) (bName pin_law 6))
  (sRet (eF (fAnd (fCall f_law_answers (fCons (bP (bV 4)) (fCons (bP (bV 5)) (fCons (bP (bV 6)) fNil)))) (fCall f_law_answers (fCons (bP (bV 4)) (fCons (bP (bV 4)) (fCons (fTup (fCons (bC .non) (fCons (bC .non) (fCons (bC .non) fNil)))) fNil))))))) [a, b, c, x6, some o.enc, some u.enc, none]) N T1 B C X := by
  walk_at "vc"
  refine FW_use (due_ok ho hu hk false) ?_
  rintro _ _ ⟨w0, rfl, h0, -⟩
  walk_at "vc"
  refine FW_use (due_ok ho hu hk true) ?_
  rintro _ _ ⟨w1, rfl, h1, -⟩
  walk_at "vc"
  refine FW_use (due_ok hu ho hk.symm true) ?_
  rintro _ _ ⟨w2, rfl, h2, -⟩
  walk_at "vc"
  refine OW_fAndB ?_
  have p0 := pure_optD w0
  have p1 := pure_optD w1
  have p2 := pure_optD w2
  walk_at "vc"
  refine and_pure (by simp [p0, p1, p2]) ?_
  walk_at "vc"
  refine and_pures (by simp [p0, p1, p2]) ?_
  refine FW_eq (answers_ok ho hu hk h0 h1 h2 (.tup [optD w0, optD w1, optD w2]) rfl rfl rfl) ?_
  refine ⟨true, rfl, ?_⟩
  walk_at "vc"
  refine FW_eq (self_ok ho) ?_
  exact ⟨true, rfl, hT _⟩
theorem law_ok (ns : List Int) (h : ns.length ≤ 63) : FW (f_law [.rol ns]) (fun r o => r = .bl true) fun _ _ => False := by
  obtain ⟨d, e, hd⟩ := begin_ok ns h
  walk_at "def"
  walk_at "vc"
  refine FW_eq e ?_
  walk_at "vc"
  refine FW_use (drawN d 8 hd (by omega) (by omega)) ?_
  rintro _ _ ⟨kind, d1, rfl, rfl, s1, hkind⟩
  walk_at "nrm"
  walk_at "vc"
  refine ⟨fun _ => ?_, fun _ => ?_⟩
  · walk_at "vc"
    refine FW_use (parts_late_ok d1 s1) ?_
    rintro _ _ rfl
    rfl
  walk_at "vc"
  refine ⟨fun _ => ?_, fun _ => ?_⟩
  · walk_at "vc"
    refine FW_use (turns_late_ok d1 s1) ?_
    rintro _ _ rfl
    rfl
  walk_at "vc"
  refine FW_use (drawN d1 3 s1 (by omega) (by omega)) ?_
  rintro _ _ ⟨k0, d2, rfl, rfl, s2, hk0⟩
  walk_at "nrm"
  walk_at "ve"
  refine RW_cut (fun x E => ∃ (m : Nat) (d' : D), x = nD m ∧ E = [some (.rol ns), some d', some (nD kind), some (nD (1 + k0)), none, none, none] ∧ St d' ∧ 0 < m ∧ (m ≤ 5 ∨ m = 40)) ?_ ?_
  · walk_at "vc"
    refine FW_use (rare_ok d2 s2) ?_
    rintro _ _ ⟨rb, d3, rfl, rfl, s3⟩
    walk_at "nrm"
    walk_at "vc"
    refine ⟨fun _ => ?_, fun _ => ?_⟩
    · walk_at "vc"
      exact ⟨40, d3, rfl, rfl, s3, by omega, .inr rfl⟩
    · walk_at "vc"
      refine FW_use (drawN d3 5 s3 (by omega) (by omega)) ?_
      rintro _ _ ⟨v, d4, rfl, rfl, s4, hv⟩
      walk_at "nrm"
      walk_at "vc"
      exact ⟨1 + v, d4, rfl, rfl, s4, by omega, .inl (by omega)⟩
  rintro _ _ ⟨m, d3, rfl, rfl, s3, hm0, hm⟩
  walk_at "ve"
  refine FW_use (few_trial2 d3 (1 + k0) m s3 (by omega) (by omega) hm0 (by omega)) ?_
  rintro _ _ ⟨t, d4, rfl, rfl, s4, ht, htk, htl, htn⟩
  walk_at "nrm"
  walk_at "ve"
  refine SW_cut (fun E => ∃ (u : T) (d' : D), E = [some (.rol ns), some d', some (nD kind), some (nD (1 + k0)), some t.enc, some u.enc, none] ∧ St d' ∧ u.Ok ∧ u.k = t.k ∧ ∀ l ∈ u.nm, l.length ≤ 5) ?_ ?_
  · walk_at "vc"
    refine ⟨fun _ => ?_, fun _ => ?_⟩
    · walk_at "ve"
      refine RW_cut (fun x E => ∃ (m : Nat) (d' : D), x = nD m ∧ E = [some (.rol ns), some d', some (nD kind), some (nD (1 + k0)), some t.enc, none, none] ∧ St d' ∧ 0 < m ∧ m ≤ 40) ?_ ?_
      · walk_at "vc"
        refine OW_ixTl (x := .tup (t.nm.map nT)) rfl ?_
        refine len_nm ht ?_
        walk_at "vc"
        refine ⟨fun _ => ?_, fun _ => ?_⟩
        · walk_at "vc"
          exact ⟨40, d4, rfl, rfl, s4, by omega, by omega⟩
        · walk_at "vc"
          refine FW_use (drawN d4 5 s4 (by omega) (by omega)) ?_
          rintro _ _ ⟨v, d5, rfl, rfl, s5, hv⟩
          walk_at "nrm"
          walk_at "vc"
          exact ⟨1 + v, d5, rfl, rfl, s5, by omega, by omega⟩
      rintro _ _ ⟨m2, d5, rfl, rfl, s5, hm20, hm2⟩
      walk_at "ve"
      refine FW_use (few_trial2 d5 (1 + k0) m2 s5 (by omega) (by omega) hm20 hm2) ?_
      rintro _ _ ⟨u, d6, rfl, rfl, s6, hu, huk, hul, hun⟩
      walk_at "nrm"
      walk_at "ve"
      exact ⟨u, d6, rfl, s6, hu, by rw [huk, htk], hun⟩
    · walk_at "vc"
      refine OW_ixTl (x := .tup (t.nm.map nT)) rfl ?_
      refine len_nm ht ?_
      walk_at "vc"
      refine ⟨fun _ => ?_, fun z => ?_⟩
      · walk_at "vc"
        exact ⟨t, d4, rfl, s4, ht, rfl, htn⟩
      · have z := of_decide_eq_false z
        walk_at "vc"
        refine FW_use (twins_ok d4 s4 ht (by omega) htn) ?_
        rintro _ _ ⟨u, d5, rfl, rfl, s5, hu, huk, hun⟩
        walk_at "nrm"
        walk_at "vc"
        exact ⟨u, d5, rfl, s5, hu, huk, hun⟩
  rintro _ ⟨u, d5, rfl, s5, hu, huk, hun⟩
  walk_at "ve"
  refine SW_cut (fun E => ∃ (u : T) (x : Option D), E = [some (.rol ns), x, some (nD kind), some (nD (1 + k0)), some t.enc, some u.enc, none] ∧ u.Ok ∧ u.k = t.k) ?_ ?_
  · walk_at "vc"
    refine ⟨fun _ => ?_, fun _ => ?_⟩
    · walk_at "vc"
      refine FW_use (renamed_ok d5 s5 hu 5 (by omega) hun false) ?_
      rintro _ _ ⟨v, d6, rfl, rfl, s6, hv, hvk, hvn⟩
      walk_at "nrm"
      walk_at "vc"
      exact ⟨v, _, rfl, hv, by rw [hvk, huk]⟩
    · walk_at "vc"
      refine ⟨fun _ => ?_, fun _ => ?_⟩
      · walk_at "vc"
        refine FW_use (renamed_ok d5 s5 hu 5 (by omega) hun true) ?_
        rintro _ _ ⟨v, d6, rfl, rfl, s6, hv, hvk, hvn⟩
        walk_at "nrm"
        walk_at "vc"
        refine FW_use (renamed_ok d6 s6 hv 6 (by omega) hvn true) ?_
        rintro _ _ ⟨v2, d7, rfl, rfl, s7, hv2, hv2k, -⟩
        walk_at "nrm"
        walk_at "vc"
        exact ⟨v2, _, rfl, hv2, by rw [hv2k, hvk, huk]⟩
      · walk_at "vc"
        exact ⟨u, _, rfl, hu, huk⟩
  rintro _ ⟨v, x, rfl, hv, hvk⟩
  refine ends_ok ht hv hvk ?_
  intro E
  rfl
theorem law_true (ns : List Int) (h : ns.length ≤ 63) : ∃ o, f_law [.rol ns] = .ok (.bl true) o := by
  obtain ⟨r, o, e, rfl⟩ := FW_out (law_ok ns h)
  exact ⟨o, e⟩
end K91

set_option maxRecDepth 100000
set_option maxHeartbeats 4000000
namespace K91
open PySem L2 VS
theorem walk {l : PySem.W.OpenLaw} {q : Program} {loose : List Str} {XP : (Str → Option Value) → Heap → Prop} {YP : World → Heap → Prop} {d : DefRec} {K : Params → PySem.W.Frag} (hn : l.most = some 63) (hdf : d.params.defaults = [])
    (hY : ∀ (w : World) (h : Heap), YP w h → (K w.params).In h)
    (F : ∀ (w : World) (mg : Str → Option Value) (fa : Addr) (h : Heap), (K w.params).In h → h.Ns mainGlobals mg → mg d.name = some (.ref fa) →
      ∃ fd : FuncData, (∀ (s : Shared) (u : Value), BindsTo s fd ⟨[u], []⟩ [("script", u)]) ∧ ∀ base : Heap, (K w.params).In base → base.Ns mainGlobals mg → FnOk l.prog w (K w.params) mg base (L2.CX l.prog w) 7 fa fd ["script"] (spLaw (K w.params) f_law)) :
    PySem.W.WalkO q loose XP YP l.row.toRowW d [] (fun f vs => PySem.call f vs) :=
  L2.walk_of (n := 63) (k := 7) (x := "script") (CX := fun w => L2.CX l.prog w) (sp := fun w => spLaw (K w.params) f_law) hn (by decide) hdf ⟨rfl, by decide, by decide⟩ hY F
    (fun w H a ns hl ho hS => by
      obtain ⟨o, e⟩ := law_true ns hl
      exact ⟨a, ns, o, rfl, only_rol ho hS, e, fun _ => rfl⟩)
    (fun w H s e s' z => by obtain ⟨_, _, _, _, _, _, _, _, _, _, _, _, z⟩ := z; exact z)
end K91

open PySem PySem.W PyProof.Rows in
set_option maxRecDepth 100000 in
set_option maxHeartbeats 0 in
theorem PySem.Challenge.cw_carriedstakes_k91_parting_rows_holds : PySem.Challenge.rw_carriedstakes_k91_parting_rows.Holds := by
  w_on; o_law; k_head; (case hw => w_witness2)
  k_fill
  refine K91.walk (l := PySem.Challenge.rw_carriedstakes_k91_parting_rows) rfl rfl (fun w h Y => PySem.W.kIn_of Y) ?F
  case F =>
    intro w mg fa h KX G hmg
    refine' K91.all_mk KX G hmg ?a0 ?l0 ?c0 ?k0 ?a1 ?l1 ?c1 ?k1 ?a2 ?l2 ?c2 ?k2 ?a3 ?l3 ?c3 ?k3 ?a4 ?l4 ?c4 ?k4 ?a5 ?l5 ?c5 ?k5 ?a6 ?l6 ?c6 ?k6 ?a7 ?l7 ?c7 ?k7 ?a8 ?l8 ?c8 ?k8 ?a9 ?l9 ?c9 ?k9 ?a10 ?l10 ?c10 ?k10 ?a11 ?l11 ?c11 ?k11 ?a12 ?l12 ?c12 ?k12 ?a13 ?l13 ?c13 ?k13 ?a14 ?l14 ?c14 ?k14 ?a15 ?l15 ?c15 ?k15 ?a16 ?l16 ?c16 ?k16 ?a17 ?l17 ?c17 ?k17 ?a18 ?l18 ?c18 ?k18 ?a19 ?l19 ?c19 ?k19 ?a20 ?l20 ?c20 ?k20 ?a21 ?l21 ?c21 ?k21 ?a22 ?l22 ?c22 ?k22 ?a23 ?l23 ?c23 ?k23 ?a24 ?l24 ?c24 ?k24 ?a25 ?l25 ?c25 ?k25 ?a26 ?l26 ?c26 ?k26 ?a27 ?l27 ?c27 ?k27 ?a28 ?l28 ?c28 ?k28 ?z_abs ?z_all ?z_any ?z_bool ?z_int ?z_isinstance ?z_len ?z_list ?z_range ?z_sorted ?z_tuple
    (case a0 => k_is)
    (case l0 => k_is)
    (case c0 => k_is)
    (case k0 => k_is)
    (case a1 => k_is)
    (case l1 => k_is)
    (case c1 => k_is)
    (case k1 => k_is)
    (case a2 => k_is)
    (case l2 => k_is)
    (case c2 => k_is)
    (case k2 => k_is)
    (case a3 => k_is)
    (case l3 => k_is)
    (case c3 => k_is)
    (case k3 => k_is)
    (case a4 => k_is)
    (case l4 => k_is)
    (case c4 => k_is)
    (case k4 => k_is)
    (case a5 => k_is)
    (case l5 => k_is)
    (case c5 => k_is)
    (case k5 => k_is)
    (case a6 => k_is)
    (case l6 => k_is)
    (case c6 => k_is)
    (case k6 => k_is)
    (case a7 => k_is)
    (case l7 => k_is)
    (case c7 => k_is)
    (case k7 => k_is)
    (case a8 => k_is)
    (case l8 => k_is)
    (case c8 => k_is)
    (case k8 => k_is)
    (case a9 => k_is)
    (case l9 => k_is)
    (case c9 => k_is)
    (case k9 => k_is)
    (case a10 => k_is)
    (case l10 => k_is)
    (case c10 => k_is)
    (case k10 => k_is)
    (case a11 => k_is)
    (case l11 => k_is)
    (case c11 => k_is)
    (case k11 => k_is)
    (case a12 => k_is)
    (case l12 => k_is)
    (case c12 => k_is)
    (case k12 => k_is)
    (case a13 => k_is)
    (case l13 => k_is)
    (case c13 => k_is)
    (case k13 => k_is)
    (case a14 => k_is)
    (case l14 => k_is)
    (case c14 => k_is)
    (case k14 => k_is)
    (case a15 => k_is)
    (case l15 => k_is)
    (case c15 => k_is)
    (case k15 => k_is)
    (case a16 => k_is)
    (case l16 => k_is)
    (case c16 => k_is)
    (case k16 => k_is)
    (case a17 => k_is)
    (case l17 => k_is)
    (case c17 => k_is)
    (case k17 => k_is)
    (case a18 => k_is)
    (case l18 => k_is)
    (case c18 => k_is)
    (case k18 => k_is)
    (case a19 => k_is)
    (case l19 => k_is)
    (case c19 => k_is)
    (case k19 => k_is)
    (case a20 => k_is)
    (case l20 => k_is)
    (case c20 => k_is)
    (case k20 => k_is)
    (case a21 => k_is)
    (case l21 => k_is)
    (case c21 => k_is)
    (case k21 => k_is)
    (case a22 => k_is)
    (case l22 => k_is)
    (case c22 => k_is)
    (case k22 => k_is)
    (case a23 => k_is)
    (case l23 => k_is)
    (case c23 => k_is)
    (case k23 => k_is)
    (case a24 => k_is)
    (case l24 => k_is)
    (case c24 => k_is)
    (case k24 => k_is)
    (case a25 => k_is)
    (case l25 => k_is)
    (case c25 => k_is)
    (case k25 => k_is)
    (case a26 => k_is)
    (case l26 => k_is)
    (case c26 => k_is)
    (case k26 => k_is)
    (case a27 => k_is)
    (case l27 => k_is)
    (case c27 => k_is)
    (case k27 => k_is)
    (case a28 => k_is)
    (case l28 => k_is)
    (case c28 => k_is)
    (case k28 => k_is)
    (case z_abs => k_is)
    (case z_all => k_is)
    (case z_any => k_is)
    (case z_bool => k_is)
    (case z_int => k_is)
    (case z_isinstance => k_is)
    (case z_len => k_is)
    (case z_list => k_is)
    (case z_range => k_is)
    (case z_sorted => k_is)
    (case z_tuple => k_is)

