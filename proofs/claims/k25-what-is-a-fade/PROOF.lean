import PyProof.Rows.All
import Wide.All
import OpenK.AllK
import Wide.FinOn
import HandS.Base
import HandS.Call
import HandS.List
import HandS.Comp
import HandS.Iter
import HandS.Text
import HandS.Wide
import HandS.IsInst
import HandS.Deep
import HandS.SortInts
import HandS.Defaults
import HandS.Exc
import HandS.WordsExc
import PyProof.Rows.CountFlat
import PyProof.ReprRoads
import HandS.Head0
import HandS.Head1
import HandS.Head2
import HandS.HeadEnd
import HandS.HeadHook1
import HandS.HeadHook2
import PySem.Challenge.RW_neartwins_k25_what_is_a_fade
section
set_option Elab.async false
set_option linter.all false
set_option autoImplicit false
set_option maxRecDepth 100000
/-! N1: a value layer over HandS. D: values without addresses; regions; what an activation keeps. -/
namespace N
open PySem PySem.Spec PyProof.Rows L2

abbrev Fg := PySem.W.Frag

inductive D where
  | non | bl (b : Bool) | int (i : Int) | str (x : Str) | ty (n : String)
  | lst (xs : List D) | tup (xs : List D)
  | obj (C : Addr) (fs : List (Str × D))
  | dic (kvs : List (Key × D))
  | ref (a : Addr)
  | scr (ns : List Int)
  | bag

def Sub (F H : Hp) : Prop := ∀ a o, F a = some o → H a = some o
theorem Sub.refl (F : Hp) : Sub F F := fun _ _ h => h
theorem Sub.trans {F G H : Hp} (x : Sub F G) (y : Sub G H) : Sub F H := fun a o h => y a o (x a o h)
theorem Sub.sqL {K : Fg} {F H : Hp} {a : Addr} {xs : List V} (x : Sub F H) (h : SqL K F a xs) : SqL K H a xs := by
  rcases h with (h | ⟨o, h⟩) | h
  · exact .inl (.inl (x _ _ h))
  · exact .inl (.inr ⟨o, x _ _ h⟩)
  · exact .inr h
theorem Sub.sqT {K : Fg} {F H : Hp} {a : Addr} {xs : List V} (x : Sub F H) (h : SqT K F a xs) : SqT K H a xs := by
  rcases h with (h | ⟨o, h⟩) | h
  · exact .inl (.inl (x _ _ h))
  · exact .inl (.inr ⟨o, x _ _ h⟩)
  · exact .inr h
theorem Sub.upd {F H : Hp} {p : Addr} {o : HO} (x : Sub F H) (h : H p = none) : Sub (upd F p o) (upd H p o) := fun a u e => by
  by_cases q : a = p
  · subst q
    rw [upd_same] at e ⊢
    exact e
  · rw [upd_ne q] at e ⊢
    exact x a u e
theorem Sub.new {F : Hp} {p : Addr} {o : HO} (h : F p = none) : Sub F (L2.upd F p o) := fun a u e => by
  have : a ≠ p := ne_of_none e h
  rw [upd_ne this]
  exact e

/-- v stands for d, by what F holds -/
def SlO (P : D → V → Prop) : List D → List V → Prop
  | [], vs => vs = []
  | d :: ds, vs => ∃ v r, vs = v :: r ∧ P d v ∧ SlO P ds r

mutual
def Rp (K : Fg) (F : Hp) : D → V → Prop
  | .non, v => v = .non
  | .bl k, v => v = .bl k
  | .int i, v => v = .int i
  | .str x, v => v = .str x
  | .ty n, v => v = .ty n
  | .ref a, v => v = .ref a
  | .bag, _ => False
  | .scr ns, v => ∃ a, v = .ref a ∧ SqL K F a (ns.map V.int)
  | .lst ds, v => ∃ a xs, v = .ref a ∧ F a = some (.lst xs) ∧ RpAll K F ds xs
  | .tup ds, v => ∃ a xs, v = .ref a ∧ SqT K F a xs ∧ RpAll K F ds xs
  | .obj C fs, v => ∃ a dx gs, v = .ref a ∧ F a = some (.ins C dx gs) ∧ RpFs K F fs gs
  | .dic fs, v => ∃ a gs, v = .ref a ∧ F a = some (.dK gs) ∧ RpKs K F fs gs
def RpAll (K : Fg) (F : Hp) : List D → List V → Prop
  | [], vs => vs = []
  | d :: ds, vs => ∃ v r, vs = v :: r ∧ Rp K F d v ∧ RpAll K F ds r
def RpFs (K : Fg) (F : Hp) : List (Str × D) → List (Str × V) → Prop
  | [], vs => vs = []
  | (f, d) :: ds, vs => ∃ v r, vs = (f, v) :: r ∧ Rp K F d v ∧ RpFs K F ds r
def RpKs (K : Fg) (F : Hp) : List (Key × D) → List (Key × V) → Prop
  | [], vs => vs = []
  | (f, d) :: ds, vs => ∃ v r, vs = (f, v) :: r ∧ Rp K F d v ∧ RpKs K F ds r
end

mutual
theorem Rp.mono {K : Fg} {F G : Hp} (x : Sub F G) : ∀ {d : D} {v : V}, Rp K F d v → Rp K G d v
  | .non, _, h => by simp only [Rp] at h ⊢; exact h
  | .bl k, _, h => by simp only [Rp] at h ⊢; exact h
  | .int i, _, h => by simp only [Rp] at h ⊢; exact h
  | .str s, _, h => by simp only [Rp] at h ⊢; exact h
  | .ty n, _, h => by simp only [Rp] at h ⊢; exact h
  | .ref a, _, h => by simp only [Rp] at h ⊢; exact h
  | .bag, _, h => by simp only [Rp] at h
  | .scr ns, _, h => by
    simp only [Rp] at h ⊢
    obtain ⟨a, e, s⟩ := h
    exact ⟨a, e, x.sqL s⟩
  | .lst ds, _, h => by
    simp only [Rp] at h ⊢
    obtain ⟨a, xs, e, s, r⟩ := h
    exact ⟨a, xs, e, x _ _ s, RpAll.mono x r⟩
  | .tup ds, _, h => by
    simp only [Rp] at h ⊢
    obtain ⟨a, xs, e, s, r⟩ := h
    exact ⟨a, xs, e, x.sqT s, RpAll.mono x r⟩
  | .obj C fs, _, h => by
    simp only [Rp] at h ⊢
    obtain ⟨a, dx, gs, e, s, r⟩ := h
    exact ⟨a, dx, gs, e, x _ _ s, RpFs.mono x r⟩
  | .dic fs, _, h => by
    simp only [Rp] at h ⊢
    obtain ⟨a, gs, e, s, r⟩ := h
    exact ⟨a, gs, e, x _ _ s, RpKs.mono x r⟩
theorem RpAll.mono {K : Fg} {F G : Hp} (x : Sub F G) : ∀ {ds : List D} {vs : List V}, RpAll K F ds vs → RpAll K G ds vs
  | [], _, h => by simp only [RpAll] at h ⊢; exact h
  | d :: ds, _, h => by
    simp only [RpAll] at h ⊢
    obtain ⟨v, r, e, h1, h2⟩ := h
    exact ⟨v, r, e, Rp.mono x h1, RpAll.mono x h2⟩
theorem RpFs.mono {K : Fg} {F G : Hp} (x : Sub F G) : ∀ {ds : List (Str × D)} {vs : List (Str × V)}, RpFs K F ds vs → RpFs K G ds vs
  | [], _, h => by simp only [RpFs] at h ⊢; exact h
  | (f, d) :: ds, _, h => by
    simp only [RpFs] at h ⊢
    obtain ⟨v, r, e, h1, h2⟩ := h
    exact ⟨v, r, e, Rp.mono x h1, RpFs.mono x h2⟩
theorem RpKs.mono {K : Fg} {F G : Hp} (x : Sub F G) : ∀ {ds : List (Key × D)} {vs : List (Key × V)}, RpKs K F ds vs → RpKs K G ds vs
  | [], _, h => by simp only [RpKs] at h ⊢; exact h
  | (f, d) :: ds, _, h => by
    simp only [RpKs] at h ⊢
    obtain ⟨v, r, e, h1, h2⟩ := h
    exact ⟨v, r, e, Rp.mono x h1, RpKs.mono x h2⟩
end
theorem RpAll.length {K : Fg} {F : Hp} : ∀ {ds : List D} {vs : List V}, RpAll K F ds vs → vs.length = ds.length
  | [], _, h => by simp only [RpAll] at h; subst h; rfl
  | d :: ds, _, h => by
    simp only [RpAll] at h
    obtain ⟨v, r, rfl, h1, h2⟩ := h
    simp only [List.length_cons, RpAll.length h2]
theorem RpAll.get {K : Fg} {F : Hp} : ∀ {ds : List D} {vs : List V} {i : Nat} {d : D}, RpAll K F ds vs → ds[i]? = some d → ∃ v, vs[i]? = some v ∧ Rp K F d v
  | [], _, _, _, h, e => by simp at e
  | d :: ds, _, 0, _, h, e => by
    simp only [RpAll] at h
    obtain ⟨v, r, rfl, h1, h2⟩ := h
    simp at e
    subst e
    exact ⟨v, rfl, h1⟩
  | d :: ds, _, i + 1, _, h, e => by
    simp only [RpAll] at h
    obtain ⟨v, r, rfl, h1, h2⟩ := h
    simp only [List.getElem?_cons_succ] at e ⊢
    exact RpAll.get h2 e
theorem RpAll.append {K : Fg} {F : Hp} : ∀ {ds es : List D} {vs us : List V}, RpAll K F ds vs → RpAll K F es us → RpAll K F (ds ++ es) (vs ++ us)
  | [], _, _, _, h, k => by simp only [RpAll] at h; subst h; exact k
  | d :: ds, _, _, _, h, k => by
    simp only [RpAll] at h
    obtain ⟨v, r, rfl, h1, h2⟩ := h
    simp only [List.cons_append, RpAll]
    exact ⟨v, _, rfl, h1, RpAll.append h2 k⟩

/-! ### what is owned: lists made here that nothing else holds -/
def OwnL (P : D → V → List Addr → Prop) : List D → List V → List Addr → Prop
  | [], vs, as => vs = [] ∧ as = []
  | d :: ds, vs, as => ∃ v r a1 a2, vs = v :: r ∧ as = a1 ++ a2 ∧ P d v a1 ∧ OwnL P ds r a2
def Own (K : Fg) (H F : Hp) : Nat → D → V → List Addr → Prop
  | 0, d, v, as => as = [] ∧ Rp K F d v
  | n + 1, d, v, as => ∃ a vs ds bs, v = .ref a ∧ d = .lst ds ∧ H a = some (.lst vs) ∧ as = a :: bs ∧ OwnL (Own K H F n) ds vs bs
theorem OwnL.imp {P P' : D → V → List Addr → Prop} : ∀ {ds : List D} {vs : List V} {as : List Addr}, OwnL P ds vs as → (∀ d v bs, (∀ a ∈ bs, a ∈ as) → P d v bs → P' d v bs) → OwnL P' ds vs as
  | [], _, _, h, _ => h
  | d :: ds, _, _, h, k => by
    obtain ⟨v, r, a1, a2, e1, e2, h1, h2⟩ := h
    subst e2
    exact ⟨v, r, a1, a2, e1, rfl, k _ _ _ (fun a m => List.mem_append_left _ m) h1, OwnL.imp h2 fun d v bs m => k d v bs fun a q => List.mem_append_right _ (m a q)⟩
theorem OwnL.append {P : D → V → List Addr → Prop} : ∀ {ds es : List D} {vs us : List V} {as bs : List Addr}, OwnL P ds vs as → OwnL P es us bs → OwnL P (ds ++ es) (vs ++ us) (as ++ bs)
  | [], _, _, _, _, _, ⟨e1, e2⟩, k => by subst e1 e2; exact k
  | d :: ds, _, _, _, _, _, ⟨v, r, a1, a2, e1, e2, h1, h2⟩, k => by
    subst e1 e2
    exact ⟨v, _, a1, _, rfl, (List.append_assoc ..), h1, OwnL.append h2 k⟩
theorem OwnL.one {P : D → V → List Addr → Prop} {d : D} {v : V} {as : List Addr} (h : P d v as) : OwnL P [d] [v] as := ⟨v, [], as, [], rfl, (List.append_nil _).symm, h, rfl, rfl⟩
theorem OwnL.length {P : D → V → List Addr → Prop} : ∀ {ds : List D} {vs : List V} {as : List Addr}, OwnL P ds vs as → vs.length = ds.length
  | [], _, _, ⟨e1, e2⟩ => by subst e1; rfl
  | d :: ds, _, _, ⟨v, r, a1, a2, e1, e2, h1, h2⟩ => by
    subst e1
    simp only [List.length_cons, OwnL.length h2]
theorem Own.zero {K : Fg} {H F : Hp} {d : D} {v : V} (h : Rp K F d v) : Own K H F 0 d v [] := ⟨rfl, h⟩
/-- level 0 lists of level 0 things -/
theorem OwnL.ofRp {K : Fg} {H F : Hp} : ∀ {ds : List D} {vs : List V}, RpAll K F ds vs → OwnL (Own K H F 0) ds vs []
  | [], _, h => by simp only [RpAll] at h; exact ⟨h, rfl⟩
  | d :: ds, _, h => by
    simp only [RpAll] at h
    obtain ⟨v, r, e, h1, h2⟩ := h
    exact ⟨v, r, [], [], e, rfl, ⟨rfl, h1⟩, OwnL.ofRp h2⟩
theorem OwnL.toRp {K : Fg} {H F : Hp} : ∀ {ds : List D} {vs : List V} {as : List Addr}, OwnL (Own K H F 0) ds vs as → as = [] ∧ RpAll K F ds vs
  | [], _, _, ⟨e1, e2⟩ => by
    simp only [RpAll]
    exact ⟨e2, e1⟩
  | d :: ds, _, _, ⟨v, r, a1, a2, e1, e2, ⟨e3, h1⟩, h2⟩ => by
    obtain ⟨e4, h3⟩ := OwnL.toRp h2
    subst e2 e3 e4
    simp only [RpAll]
    exact ⟨rfl, v, r, e1, h1, h3⟩
theorem Own.keep {K : Fg} {H H' F F' : Hp} (x : Sub F F') : ∀ {n : Nat} {d : D} {v : V} {as : List Addr}, Own K H F n d v as → (∀ a ∈ as, H' a = H a) → Own K H' F' n d v as
  | 0, _, _, _, ⟨e, h⟩, _ => ⟨e, Rp.mono x h⟩
  | n + 1, _, _, _, ⟨a, vs, ds, bs, e1, e2, h1, e3, h2⟩, k => by
    subst e3
    exact ⟨a, vs, ds, bs, e1, e2, (k a List.mem_cons_self).trans h1, rfl, OwnL.imp h2 fun d v cs m h => Own.keep x h fun c q => k c (List.mem_cons_of_mem _ (m c q))⟩
/-- F with the lists at as -/
def Fz (F H : Hp) (as : List Addr) : Hp := fun a => if a ∈ as then H a else F a
theorem Fz.sub {F H : Hp} {as : List Addr} (h : ∀ a ∈ as, F a = none) : Sub F (Fz F H as) := fun a o e => by
  unfold Fz
  rw [if_neg fun m => by rw [h a m] at e; cases e]
  exact e
theorem Fz.le {F H : Hp} {as : List Addr} (x : Sub F H) : Sub (Fz F H as) H := fun a o e => by
  unfold Fz at e
  by_cases m : a ∈ as
  · rw [if_pos m] at e; exact e
  · rw [if_neg m] at e; exact x a o e
theorem Fz.part {F H : Hp} {as bs : List Addr} (m : ∀ a ∈ bs, a ∈ as) (h : ∀ a ∈ as, F a = none) : Sub (Fz F H bs) (Fz F H as) := fun a o e => by
  unfold Fz at e ⊢
  by_cases q : a ∈ bs
  · rw [if_pos q] at e; rw [if_pos (m a q)]; exact e
  · rw [if_neg q] at e; rw [if_neg fun z => by rw [h a z] at e; cases e]; exact e
mutual
theorem Own.frz {K : Fg} {H F : Hp} : ∀ {n : Nat} {d : D} {v : V} {as : List Addr}, Own K H F n d v as → (∀ a ∈ as, F a = none) → Rp K (Fz F H as) d v
  | 0, _, _, _, ⟨e, h⟩, k => by subst e; exact Rp.mono (Fz.sub k) h
  | n + 1, _, _, _, ⟨a, vs, ds, bs, e1, e2, h1, e3, h2⟩, k => by
    subst e2 e3
    simp only [Rp]
    refine ⟨a, vs, e1, ?_, ?_⟩
    · unfold Fz
      rw [if_pos List.mem_cons_self]
      exact h1
    · exact RpAll.mono (Fz.part (fun c m => List.mem_cons_of_mem _ m) k) (Own.frzL h2 fun c m => k c (List.mem_cons_of_mem _ m))
theorem Own.frzL {K : Fg} {H F : Hp} : ∀ {n : Nat} {ds : List D} {vs : List V} {as : List Addr}, OwnL (Own K H F n) ds vs as → (∀ a ∈ as, F a = none) → RpAll K (Fz F H as) ds vs
  | n, [], _, _, ⟨e1, e2⟩, _ => by simp only [RpAll]; exact e1
  | n, d :: ds, _, _, ⟨v, r, a1, a2, e1, e2, h1, h2⟩, k => by
    subst e2
    simp only [RpAll]
    exact ⟨v, r, e1, Rp.mono (Fz.part (fun a m => List.mem_append_left _ m) k) (Own.frz h1 fun a m => k a (List.mem_append_left _ m)),
      RpAll.mono (Fz.part (fun a m => List.mem_append_right _ m) k) (Own.frzL h2 fun a m => k a (List.mem_append_right _ m))⟩
end

/-! ### slots -/
inductive Sl where
  | un | bg | ow (n : Nat) (d : D)
abbrev Env := List Sl
def SlR (K : Fg) (H F : Hp) (b : Option Addr) : Sl → Option V → List Addr → Prop
  | .un, _, as => as = []
  | .bg, x, as => as = [] ∧ ∃ a, b = some a ∧ x = some (.ref a)
  | .ow n d, x, as => ∃ v, x = some v ∧ Own K H F n d v as
/-- the entry of an activation -/
structure En where
  H0 : Hp
  F0 : Hp
  b0 : Option Addr
  BI : List V → Prop
def SameB (b : Option Addr) (H H' : Hp) : Prop := ∀ a o, b ≠ some a → H a = some o → H' a = some o
theorem SameB.refl (b : Option Addr) (H : Hp) : SameB b H H := fun _ _ _ h => h
theorem SameB.trans {b : Option Addr} {H H1 H2 : Hp} (x : SameB b H H1) (y : SameB b H1 H2) : SameB b H H2 := fun a o n h => y a o n (x a o n h)
theorem Sub.sameB {b : Option Addr} {H H' : Hp} (x : Sub H H') : SameB b H H' := fun a o _ h => x a o h
/-- an address that only we hold -/
structure Mine (E : En) (H F : Hp) (b : Option Addr) (a : Addr) : Prop where
  f : F a = none
  h0 : E.H0 a = none
  nb : b ≠ some a
  h : ∃ o, H a = some o
structure RepS (K : Fg) (E : En) (σ : L2.St) (H F : Hp) (b : Option Addr) (env : Env) (ex : List Addr) : Prop where
  le : Sub F H
  f0 : Sub E.F0 F
  nw : ∀ a o, F a = some o → E.F0 a = some o ∨ E.H0 a = none
  sb : SameB E.b0 E.H0 H
  bg : ∀ a, (b = some a ∨ E.b0 = some a) → F a = none ∧ ∃ xs, H a = some (.lst xs) ∧ E.BI xs
  bn : ∀ a, b = some a → E.b0 = some a ∨ E.H0 a = none
  b0 : ∀ a, E.b0 = some a → ∃ o, E.H0 a = some o
  len : env.length = σ.length
  sl : ∃ tag : Addr → Option Nat, (∀ i s x, env[i]? = some s → σ[i]? = some x → ∃ as, SlR K H F b s x as ∧ as.Nodup ∧ ∀ a ∈ as, tag a = some i ∧ Mine E H F b a) ∧ ∀ a ∈ ex, tag a = none
  exn : ex.Nodup
  exm : ∀ a ∈ ex, Mine E H F b a
theorem Mine.nb0 {K : Fg} {E : En} {σ : L2.St} {H F : Hp} {b : Option Addr} {env : Env} {ex : List Addr} {a : Addr} (m : Mine E H F b a) (R : RepS K E σ H F b env ex) : E.b0 ≠ some a := fun e => by
  obtain ⟨o, q⟩ := R.b0 a e
  rw [m.h0] at q
  cases q
theorem RepS.fresh {K : Fg} {E : En} {σ : L2.St} {H F : Hp} {b : Option Addr} {env : Env} {ex : List Addr} (R : RepS K E σ H F b env ex) {a : Addr} (h : H a = none) : E.H0 a = none ∧ F a = none ∧ b ≠ some a ∧ E.b0 ≠ some a := by
  have nb : b ≠ some a := fun e => by
    obtain ⟨_, xs, q, _⟩ := R.bg a (.inl e)
    rw [h] at q
    cases q
  have nb0 : E.b0 ≠ some a := fun e => by
    obtain ⟨_, xs, q, _⟩ := R.bg a (.inr e)
    rw [h] at q
    cases q
  refine ⟨?_, ?_, nb, nb0⟩
  · cases q : E.H0 a with
    | none => rfl
    | some o =>
      have := R.sb a o nb0 q
      rw [h] at this
      cases this
  · cases q : F a with
    | none => rfl
    | some o =>
      have := R.le a o q
      rw [h] at this
      cases this
/-- the heap has grown, perhaps the bag has turned; G the new region -/
theorem RepS.to {K : Fg} {E : En} {σ : L2.St} {H F H' G : Hp} {b : Option Addr} {env : Env} {ex : List Addr} (R : RepS K E σ H F b env ex) (sb : SameB b H H') (hb : ∀ a, b = some a → ∃ xs, H' a = some (.lst xs) ∧ E.BI xs)
    (le : Sub G H') (fg : Sub F G) (gn : ∀ a o, G a = some o → F a = some o ∨ H a = none) : RepS K E σ H' G b env ex := by
  have gb : ∀ a, (b = some a ∨ E.b0 = some a) → G a = none := fun a e => by
    obtain ⟨f, xs, h, _⟩ := R.bg a e
    cases q : G a with
    | none => rfl
    | some o =>
      rcases gn a o q with z | z
      · rw [f] at z; cases z
      · rw [h] at z; cases z
  have mine : ∀ a, Mine E H F b a → Mine E H' G b a := fun a m => by
    obtain ⟨o, ho⟩ := m.h
    refine ⟨?_, m.h0, m.nb, ⟨o, sb a o m.nb ho⟩⟩
    cases q : G a with
    | none => rfl
    | some u =>
      rcases gn a u q with z | z
      · rw [m.f] at z; cases z
      · rw [ho] at z; cases z
  refine ⟨le, R.f0.trans fg, fun a o e => ?_, fun a o n e => ?_, fun a e => ⟨gb a e, ?_⟩, R.bn, R.b0, R.len, ?_, R.exn, fun a m => mine a (R.exm a m)⟩
  · rcases gn a o e with z | z
    · exact R.nw a o z
    · exact .inr (R.fresh z).1
  · by_cases q : b = some a
    · rcases R.bn a q with z | z
      · exact absurd z n
      · rw [z] at e; cases e
    · exact sb a o q (R.sb a o n e)
  · by_cases q : b = some a
    · exact hb a q
    · rcases e with e | e
      · exact absurd e q
      · obtain ⟨_, xs, h, bi⟩ := R.bg a (.inr e)
        exact ⟨xs, sb a _ q h, bi⟩
  · obtain ⟨tag, h, hx⟩ := R.sl
    refine ⟨tag, fun i s x e1 e2 => ?_, hx⟩
    obtain ⟨as, hs, nd, ha⟩ := h i s x e1 e2
    refine ⟨as, ?_, nd, fun a m => ⟨(ha a m).1, mine a (ha a m).2⟩⟩
    cases s with
    | un => exact hs
    | bg => exact hs
    | ow n d =>
      obtain ⟨v, e, o⟩ := hs
      refine ⟨v, e, Own.keep fg o fun a m => ?_⟩
      obtain ⟨u, hu⟩ := (ha a m).2.h
      rw [hu]
      exact sb a u (ha a m).2.nb hu
/-- F and all that H' has new -/
def nwR (F H H' : Hp) : Hp := fun a => match H a with
  | none => H' a
  | some _ => F a
theorem nwR.sub {F H H' : Hp} (x : Sub F H) : Sub F (nwR F H H') := fun a o e => by
  unfold nwR
  rw [x a o e]
  exact e
theorem nwR.le {F H H' : Hp} (x : Sub F H) (y : Sub H H') : Sub (nwR F H H') H' := fun a o e => by
  unfold nwR at e
  cases q : H a with
  | none => rw [q] at e; exact e
  | some u =>
    rw [q] at e
    exact y a o (x a o e)
theorem nwR.or {F H H' : Hp} (a : Addr) (o : HO) (e : nwR F H H' a = some o) : F a = some o ∨ H a = none := by
  unfold nwR at e
  cases q : H a with
  | none => exact .inr rfl
  | some u => rw [q] at e; exact .inl e
theorem nwR.mono {F F' H H' : Hp} (x : Sub F F') (y : Sub F' H) : Sub (nwR F H H') (nwR F' H H') := fun a o e => by
  unfold nwR at e ⊢
  cases q : H a with
  | none => rw [q] at e; exact e
  | some u => rw [q] at e; exact x a o e
theorem nwR.upd {F H : Hp} {p : Addr} {o : HO} (h : H p = none) : L2.upd F p o p = nwR F H (L2.upd H p o) p := by
  unfold nwR
  rw [h, upd_same]
  exact upd_same.symm
/-- all that stood stays; what is new is ours to read -/
theorem RepS.grow {K : Fg} {E : En} {σ : L2.St} {H F H' : Hp} {b : Option Addr} {env : Env} {ex : List Addr} (R : RepS K E σ H F b env ex) (s : Sub H H') : RepS K E σ H' (nwR F H H') b env ex :=
  R.to s.sameB (fun a e => by
    obtain ⟨_, xs, h, bi⟩ := R.bg a (.inl e)
    exact ⟨xs, s a _ h, bi⟩) (nwR.le R.le s) (nwR.sub R.le) nwR.or
/-- a new object that is ours to read -/
theorem RepS.new {K : Fg} {E : En} {σ : L2.St} {H F : Hp} {b : Option Addr} {env : Env} {ex : List Addr} {p : Addr} {o : HO} (R : RepS K E σ H F b env ex) (h : H p = none) : RepS K E σ (upd H p o) (upd F p o) b env ex :=
  R.to (Sub.sameB (Sub.new h)) (fun a e => by
    obtain ⟨_, xs, q, bi⟩ := R.bg a (.inl e)
    exact ⟨xs, (Sub.new h) a _ q, bi⟩) (R.le.upd h) (Sub.new (R.fresh h).2.1) fun a u e => by
      by_cases q : a = p
      · subst q; exact .inr h
      · rw [upd_ne q] at e; exact .inl e
/-- a new object that is kept for oneself -/
theorem RepS.hold {K : Fg} {E : En} {σ : L2.St} {H F : Hp} {b : Option Addr} {env : Env} {ex : List Addr} {p : Addr} {o : HO} (R : RepS K E σ H F b env ex) (h : H p = none) : RepS K E σ (upd H p o) F b env (p :: ex) := by
  have R1 : RepS K E σ (upd H p o) F b env ex := R.to (Sub.sameB (Sub.new h)) (fun a e => by
    obtain ⟨_, xs, q, bi⟩ := R.bg a (.inl e)
    exact ⟨xs, (Sub.new h) a _ q, bi⟩) (R.le.trans (Sub.new h)) (Sub.refl F) fun a u e => .inl e
  obtain ⟨f1, f2, f3, f4⟩ := R.fresh h
  have np : ∀ a, Mine E H F b a → a ≠ p := fun a m e => by
    obtain ⟨u, hu⟩ := m.h
    subst e
    rw [h] at hu
    cases hu
  refine ⟨R1.le, R1.f0, R1.nw, R1.sb, R1.bg, R1.bn, R1.b0, R1.len, ?_, List.nodup_cons.mpr ⟨fun m => np p (R.exm p m) rfl, R.exn⟩, fun a m => ?_⟩
  · obtain ⟨tag, q, hx⟩ := R.sl
    obtain ⟨tag1, q1, hx1⟩ := R1.sl
    refine ⟨fun a => if a = p then none else tag a, fun i s x e1 e2 => ?_, fun a m => ?_⟩
    · obtain ⟨as, hs, nd, ha⟩ := q i s x e1 e2
      refine ⟨as, ?_, nd, fun a m => ?_⟩
      · cases s with
        | un => exact hs
        | bg => exact hs
        | ow n d =>
          obtain ⟨v, e, o'⟩ := hs
          exact ⟨v, e, Own.keep (Sub.refl F) o' fun a m => upd_ne (np a (ha a m).2)⟩
      · have z := np a (ha a m).2
        dsimp only
        rw [if_neg z]
        obtain ⟨u, hu⟩ := (ha a m).2.h
        exact ⟨(ha a m).1, (ha a m).2.f, (ha a m).2.h0, (ha a m).2.nb, ⟨u, by rw [upd_ne z]; exact hu⟩⟩
    · dsimp only
      by_cases z : a = p
      · rw [if_pos z]
      · rw [if_neg z]
        exact hx a ((List.mem_cons.mp m).resolve_left z)
  · rcases List.mem_cons.mp m with z | z
    · subst z
      exact ⟨f2, f1, f3, ⟨_, upd_same⟩⟩
    · have y := R.exm a z
      obtain ⟨u, hu⟩ := y.h
      exact ⟨y.f, y.h0, y.nb, ⟨u, by rw [upd_ne (np a y)]; exact hu⟩⟩
/-- what we hold for ourselves may change -/
theorem RepS.mut {K : Fg} {E : En} {σ : L2.St} {H F : Hp} {b : Option Addr} {env : Env} {ex : List Addr} {p : Addr} {o : HO} (R : RepS K E σ H F b env ex) (h : p ∈ ex) : RepS K E σ (upd H p o) F b env ex := by
  have m := R.exm p h
  have nb0 := m.nb0 R
  refine ⟨fun a u e => ?_, R.f0, R.nw, fun a u n e => ?_, fun a e => ?_, R.bn, R.b0, R.len, ?_, R.exn, fun a z => ?_⟩
  · rw [upd_ne (fun q => by subst q; rw [m.f] at e; cases e)]
    exact R.le a u e
  · rw [upd_ne (fun q => by subst q; rw [m.h0] at e; cases e)]
    exact R.sb a u n e
  · have z : a ≠ p := fun q => by
      subst q
      rcases e with e | e
      · exact m.nb e
      · exact nb0 e
    rw [upd_ne z]
    exact R.bg a e
  · obtain ⟨tag, q, hx⟩ := R.sl
    refine ⟨tag, fun i s x e1 e2 => ?_, hx⟩
    obtain ⟨as, hs, nd, ha⟩ := q i s x e1 e2
    have np : ∀ a ∈ as, a ≠ p := fun a z e => by
      subst e
      have t1 := (ha a z).1
      rw [hx a h] at t1
      cases t1
    refine ⟨as, ?_, nd, fun a z => ⟨(ha a z).1, (ha a z).2.f, (ha a z).2.h0, (ha a z).2.nb, ?_⟩⟩
    · cases s with
      | un => exact hs
      | bg => exact hs
      | ow n d =>
        obtain ⟨v, e, o'⟩ := hs
        exact ⟨v, e, Own.keep (Sub.refl F) o' fun a z => upd_ne (np a z)⟩
    · obtain ⟨u, hu⟩ := (ha a z).2.h
      exact ⟨u, by rw [upd_ne (np a z)]; exact hu⟩
  · have y := R.exm a z
    refine ⟨y.f, y.h0, y.nb, ?_⟩
    by_cases q : a = p
    · subst q; exact ⟨_, upd_same⟩
    · obtain ⟨u, hu⟩ := y.h
      exact ⟨u, by rw [upd_ne q]; exact hu⟩
/-- fewer held -/
theorem RepS.drop {K : Fg} {E : En} {σ : L2.St} {H F : Hp} {b : Option Addr} {env : Env} {ex ex' : List Addr} (R : RepS K E σ H F b env ex) (h : ∀ a ∈ ex', a ∈ ex) (nd : ex'.Nodup) : RepS K E σ H F b env ex' := by
  obtain ⟨tag, q, hx⟩ := R.sl
  exact ⟨R.le, R.f0, R.nw, R.sb, R.bg, R.bn, R.b0, R.len, ⟨tag, q, fun a m => hx a (h a m)⟩, nd, fun a m => R.exm a (h a m)⟩
end N
end
section
set_option Elab.async false
set_option linter.all false
set_option autoImplicit false
set_option maxRecDepth 100000
/-! N2: readings by values; expressions. -/
namespace N
open PySem PySem.Spec PyProof.Rows L2

/-- what a result is: d at v, the heap then H', the region G, own lists as -/
structure Res (K : Fg) (b : Option Addr) (BI : List V → Prop) (H F H' G : Hp) (n : Nat) (d : D) (v : V) (as : List Addr) : Prop where
  sb : SameB b H H'
  hb : ∀ a, b = some a → ∃ xs, H' a = some (.lst xs) ∧ BI xs
  fg : Sub F G
  le : Sub G H'
  gn : ∀ a o, G a = some o → F a = some o ∨ H a = none
  ow : Own K H' G n d v as
  nd : as.Nodup
  mn : ∀ a ∈ as, G a = none ∧ H a = none ∧ ∃ o, H' a = some o
theorem RepS.res {K : Fg} {E : En} {σ : L2.St} {H F H' G : Hp} {b : Option Addr} {env : Env} {ex as : List Addr} {n : Nat} {d : D} {v : V} (R : RepS K E σ H F b env ex) (r : Res K b E.BI H F H' G n d v as) :
    RepS K E σ H' G b env (as ++ ex) := by
  have R1 := R.to r.sb r.hb r.le r.fg r.gn
  have ne : ∀ a ∈ as, ∀ c, Mine E H F b c → c ≠ a := fun a m c mc e => by
    obtain ⟨o, ho⟩ := mc.h
    rw [e, (r.mn a m).2.1] at ho
    cases ho
  refine ⟨R1.le, R1.f0, R1.nw, R1.sb, R1.bg, R1.bn, R1.b0, R1.len, ?_, ?_, fun a m => ?_⟩
  · obtain ⟨tag, q, hx⟩ := R.sl
    obtain ⟨tag1, q1, hx1⟩ := R1.sl
    refine ⟨fun a => if a ∈ as then none else tag a, fun i s x e1 e2 => ?_, fun a m => ?_⟩
    · obtain ⟨bs, hs, nd, ha⟩ := q i s x e1 e2
      have nin : ∀ a ∈ bs, a ∉ as := fun a m z => ne a z a (ha a m).2 rfl
      refine ⟨bs, ?_, nd, fun a m => ?_⟩
      · cases s with
        | un => exact hs
        | bg => exact hs
        | ow k d =>
          obtain ⟨v, e, o'⟩ := hs
          refine ⟨v, e, Own.keep r.fg o' fun a m => ?_⟩
          obtain ⟨u, hu⟩ := (ha a m).2.h
          rw [hu]
          exact r.sb a u (ha a m).2.nb hu
      · dsimp only
        rw [if_neg (nin a m)]
        obtain ⟨u, hu⟩ := (ha a m).2.h
        refine ⟨(ha a m).1, ?_, (ha a m).2.h0, (ha a m).2.nb, ⟨u, r.sb a u (ha a m).2.nb hu⟩⟩
        cases z : G a with
        | none => rfl
        | some w =>
          rcases r.gn a w z with z | z
          · rw [(ha a m).2.f] at z; cases z
          · rw [hu] at z; cases z
    · dsimp only
      by_cases z : a ∈ as
      · rw [if_pos z]
      · rw [if_neg z]
        exact hx a ((List.mem_append.mp m).resolve_left z)
  · exact List.nodup_append.mpr ⟨r.nd, R.exn, fun a m c mc => (ne a m c (R.exm c mc)).symm⟩
  · rcases List.mem_append.mp m with z | z
    · obtain ⟨h1, h2, h3⟩ := r.mn a z
      obtain ⟨f1, f2, f3, f4⟩ := R.fresh h2
      exact ⟨h1, f1, f3, h3⟩
    · exact R1.exm a z
theorem Res.scal {K : Fg} {b : Option Addr} {BI : List V → Prop} {H F : Hp} {d : D} {v : V} (le : Sub F H) (hb : ∀ a, b = some a → ∃ xs, H a = some (.lst xs) ∧ BI xs) (r : Rp K F d v) : Res K b BI H F H F 0 d v [] :=
  ⟨SameB.refl _ _, hb, Sub.refl _, le, fun _ _ e => .inl e, Own.zero r, List.nodup_nil, fun a m => by cases m⟩
/-- a new list or tuple that is ours to read -/
theorem Res.new {K : Fg} {b : Option Addr} {BI : List V → Prop} {H F : Hp} {d : D} {p : Addr} {o : HO} (le : Sub F H) (hb : ∀ a, b = some a → ∃ xs, H a = some (.lst xs) ∧ BI xs) (hp : H p = none) (r : Rp K (upd F p o) d (.ref p)) : Res K b BI H F (upd H p o) (upd F p o) 0 d (.ref p) [] := by
  have fp : F p = none := by
    cases q : F p with
    | none => rfl
    | some u => rw [le p u q] at hp; cases hp
  refine ⟨(Sub.new hp).sameB, fun a e => ?_, Sub.new fp, le.upd hp, fun a u e => ?_, Own.zero r, List.nodup_nil, fun a m => by cases m⟩
  · obtain ⟨xs, h, bi⟩ := hb a e
    exact ⟨xs, (Sub.new hp) a _ h, bi⟩
  · by_cases q : a = p
    · subst q; exact .inr hp
    · rw [upd_ne q] at e; exact .inl e
/-- a new list of our own -/
theorem Res.own {K : Fg} {b : Option Addr} {BI : List V → Prop} {H F : Hp} {ds : List D} {vs : List V} {p : Addr} (le : Sub F H) (hb : ∀ a, b = some a → ∃ xs, H a = some (.lst xs) ∧ BI xs) (hp : H p = none) (r : RpAll K F ds vs) : Res K b BI H F (upd H p (.lst vs)) F 1 (.lst ds) (.ref p) [p] := by
  have fp : F p = none := by
    cases q : F p with
    | none => rfl
    | some u => rw [le p u q] at hp; cases hp
  refine ⟨(Sub.new hp).sameB, fun a e => ?_, Sub.refl F, le.trans (Sub.new hp), fun a u e => .inl e, ⟨p, vs, ds, [], rfl, rfl, upd_same, rfl, OwnL.ofRp r⟩, by simp, fun a m => ?_⟩
  · obtain ⟨xs, h, bi⟩ := hb a e
    exact ⟨xs, (Sub.new hp) a _ h, bi⟩
  · obtain rfl : a = p := by simpa using m
    exact ⟨fp, hp, _, upd_same⟩
theorem Res.trans {K : Fg} {b : Option Addr} {BI : List V → Prop} {H F H1 F1 H2 F2 : Hp} {n m : Nat} {d e : D} {v u : V} {as bs : List Addr} (x : Res K b BI H F H1 F1 n d v as) (y : Res K b BI H1 F1 H2 F2 m e u bs) : Res K b BI H F H2 F2 m e u bs := by
  have up : ∀ a, b ≠ some a → H1 a = none → H a = none := fun a nb h => by
    cases q : H a with
    | none => rfl
    | some o => rw [x.sb a o nb q] at h; cases h
  have nb : ∀ a, H1 a = none → b ≠ some a := fun a h e => by
    obtain ⟨xs, q, _⟩ := x.hb a e
    rw [h] at q; cases q
  refine ⟨x.sb.trans y.sb, y.hb, x.fg.trans y.fg, y.le, fun a o e => ?_, y.ow, y.nd, fun a z => ?_⟩
  · rcases y.gn a o e with z | z
    · exact x.gn a o z
    · exact .inr (up a (nb a z) z)
  · obtain ⟨h1, h2, h3⟩ := y.mn a z
    exact ⟨h1, up a (nb a h2) h2, h3⟩
theorem RepS.hbb {K : Fg} {E : En} {σ : L2.St} {H F : Hp} {b : Option Addr} {env : Env} {ex : List Addr} (R : RepS K E σ H F b env ex) : ∀ a, b = some a → ∃ xs, H a = some (.lst xs) ∧ E.BI xs := fun a e => (R.bg a (.inl e)).2

/-! ### readings by values -/
abbrev VT := Env → (D → Prop) → Prop
abbrev VTT := Env → (Bool → Prop) → Prop
abbrev VTA := Env → (List D → Prop) → Prop
def lE (K : Fg) (E : En) (n : Nat) (t : VT) : TE := fun σ H Q => ∃ F b env ex Qd, RepS K E σ H F b env ex ∧ t env Qd ∧
  ∀ d v H' F' as, Qd d → Res K b E.BI H F H' F' n d v as → Q v H'
def lT (K : Fg) (E : En) (t : VTT) : TT := fun σ H Q => ∃ F b env ex Qd, RepS K E σ H F b env ex ∧ t env Qd ∧
  ∀ k H' F', Qd k → Res K b E.BI H F H' F' 0 .non .non [] → Q k H'
/-- arguments; the flagged ones are the bag -/
def RpAs (K : Fg) (F : Hp) (b : Option Addr) : List Bool → List D → List V → Prop
  | [], [], vs => vs = []
  | true :: fl, d :: ds, vs => d = .bag ∧ ∃ a r, b = some a ∧ vs = .ref a :: r ∧ RpAs K F b fl ds r
  | false :: fl, d :: ds, vs => ∃ v r, vs = v :: r ∧ Rp K F d v ∧ RpAs K F b fl ds r
  | _, _, _ => False
def lA (K : Fg) (E : En) (fl : List Bool) (t : VTA) : TA := fun σ H Q => ∃ F b env ex Qd, RepS K E σ H F b env ex ∧ t env Qd ∧
  ∀ ds vs H' F', Qd ds → Res K b E.BI H F H' F' 0 .non .non [] → RpAs K F' b fl ds vs → Q vs H'
def VE (X : Cx) (E : En) (n : Nat) (e : Expr) (t : VT) : Prop := PE X e (lE X.K E n t)
def VTs (X : Cx) (E : En) (e : Expr) (t : VTT) : Prop := PT X e (lT X.K E t)
def VW (X : Cx) (E : En) (e : Expr) (t : VTT) : Prop := PW X e (lT X.K E t)
def VA (X : Cx) (E : En) (fl : List Bool) (es : List Expr) (t : VTA) : Prop := PA X es (lA X.K E fl t)
theorem PEimp {X : Cx} {e : Expr} {t t' : TE} (h : PE X e t) (k : ∀ σ H Q, t' σ H Q → t σ H Q) : PE X e t' := ⟨fun pins s σ H Q I q => h.run pins s σ H Q I (k σ H Q q)⟩
theorem PTimp {X : Cx} {e : Expr} {t t' : TT} (h : PT X e t) (k : ∀ σ H Q, t' σ H Q → t σ H Q) : PT X e t' := ⟨fun pins s σ H Q I q => h.run pins s σ H Q I (k σ H Q q)⟩
theorem PWimp {X : Cx} {e : Expr} {t t' : TT} (h : PW X e t) (k : ∀ σ H Q, t' σ H Q → t σ H Q) : PW X e t' := ⟨fun wh pins s σ H Q I q => h.run wh pins s σ H Q I (k σ H Q q)⟩
theorem PAimp {X : Cx} {e : List Expr} {t t' : TA} (h : PA X e t) (k : ∀ σ H Q, t' σ H Q → t σ H Q) : PA X e t' := ⟨fun po pins s σ H Q I q => h.run po pins s σ H Q I (k σ H Q q)⟩
theorem PSimp {X : Cx} {e : Stmt} {t t' : TS} (h : PS X e t) (k : ∀ D σ H, t' D σ H → t D σ H) : PS X e t' := ⟨fun pins s σ H D I q => h.run pins s σ H D I (k D σ H q)⟩
theorem PSsimp {X : Cx} {e : List Stmt} {t t' : TS} (h : PSs X e t) (k : ∀ D σ H, t' D σ H → t D σ H) : PSs X e t' := ⟨fun pins s σ H D I q => h.run pins s σ H D I (k D σ H q)⟩

/-! ### constants and names -/
def vC (d : D) : VT := fun _ Q => Q d
def vV (i : Nat) : VT := fun env Q => match env[i]? with
  | some (.ow 0 d) => Q d
  | _ => False
theorem c_imp {K : Fg} {E : En} {d : D} {v : V} (r : ∀ F, Rp K F d v) : ∀ σ H Q, lE K E 0 (vC d) σ H Q → tC v σ H Q := fun σ H Q ⟨F, b, env, ex, Qd, R, h, k⟩ =>
  k d v H F [] h (Res.scal R.le R.hbb (r F))
section
variable {X : Cx} {E : En}
theorem ve_int {i : Int} {j pos} : VE X E 0 (.Constant (.int i) j pos) (vC (.int i)) := PEimp pe_int (c_imp fun F => by simp only [Rp])
theorem ve_bl {b : Bool} {j pos} : VE X E 0 (.Constant (.bool b) j pos) (vC (.bl b)) := PEimp pe_bl (c_imp fun F => by simp only [Rp])
theorem ve_non {j pos} : VE X E 0 (.Constant .none j pos) (vC .non) := PEimp pe_non (c_imp fun F => by simp only [Rp])
theorem ve_str {x : Str} {j pos} : VE X E 0 (.Constant (.str x) j pos) (vC (.str x)) := PEimp pe_str (c_imp fun F => by simp only [Rp])
/-- a module's constant, class, def -/
theorem ve_glob {x : Str} {v : V} {d : D} {u : Value} {pos : Pos} (hg : Gl X x) (hm : X.mg x = some u) (r : RelV v u) (rd : ∀ F, Rp X.K F d v) (hd : (x == ("__debug__" : Str)) = false := by decide) : VE X E 0 (.Name x pos) (vC d) :=
  PEimp (pe_glob hg hm r hd) (c_imp rd)
theorem RepS.slot {K : Fg} {E : En} {σ : L2.St} {H F : Hp} {b : Option Addr} {env : Env} {ex : List Addr} (R : RepS K E σ H F b env ex) {i : Nat} {s : Sl} (h : env[i]? = some s) :
    ∃ x as, σ[i]? = some x ∧ SlR K H F b s x as ∧ as.Nodup ∧ ∀ a ∈ as, Mine E H F b a := by
  obtain ⟨tag, q, hx⟩ := R.sl
  have hi : i < σ.length := by rw [← R.len]; exact (List.getElem?_eq_some_iff.mp h).1
  obtain ⟨as, h1, h2, h3⟩ := q i s σ[i] h (List.getElem?_eq_getElem hi)
  exact ⟨_, as, List.getElem?_eq_getElem hi, h1, h2, fun a m => (h3 a m).2⟩
theorem var_imp {K : Fg} {i : Nat} : ∀ σ H Q, lE K E 0 (vV i) σ H Q → tVar i σ H Q := fun σ H Q ⟨F, b, env, ex, Qd, R, h, k⟩ => by
  unfold vV at h
  split at h
  · rename_i d e
    obtain ⟨x, as, h1, ⟨v, rfl, ha, hr⟩, h3⟩ := R.slot e
    exact ⟨v, h1, k d v H F [] h (Res.scal R.le R.hbb hr)⟩
  · exact h.elim
theorem ve_v (i : Nat) {x : Str} {pos : Pos} (hN : X.N[i]? = some x := by rfl) (hv : Vis X.env.scope x := by first | exact Or.inl rfl | exact Or.inr (Or.inl rfl) | exact Or.inr (Or.inr rfl)) (hd : (x == ("__debug__" : Str)) = false := by decide)
    (hcd : (x == ("__classdict__" : Str)) = false := by decide) : VE X E 0 (.Name x pos) (vV i) := PEimp (pe_var hN hv hd hcd) var_imp

/-! ### operators -/
/-- f of two values: by g -/
def OpS (X : Cx) (BI : List V → Prop) (f : Value → Value → Sem Value) (n : Nat) (g : D → D → (D → Prop) → Prop) : Prop :=
  ∀ pins s σ (b : Option Addr) (H F : Hp) (x y : V) (v u : Value) (dx dy : D) (Qd : D → Prop) (Q : VK), Inv X pins σ H s → Sub F H → (∀ a, b = some a → ∃ xs, H a = some (.lst xs) ∧ BI xs) → RelV x v → RelV y u → Rp X.K F dx x → Rp X.K F dy y → g dx dy Qd →
    (∀ d v' H' G as, Qd d → Res X.K b BI H F H' G n d v' as → Q v' H') → wpAny (model X.prog X.w) X.A (f v u) (EP X pins σ Q) X.xe s
def vOp (g : D → D → (D → Prop) → Prop) (ta tb : VT) : VT := fun env Q => ta env fun x => tb env fun y => g x y Q
theorem lE_bin {K : Fg} {ta tb : VT} {g : D → D → (D → Prop) → Prop} {n : Nat} {σ : L2.St} {H : Hp} {Q : VK} (h : lE K E n (vOp g ta tb) σ H Q) (C : V → V → Hp → Prop)
    (k : ∀ (b : Option Addr) (H2 F2 : Hp) (x y : V) (dx dy : D) (Qd : D → Prop), Sub F2 H2 → (∀ a, b = some a → ∃ xs, H2 a = some (.lst xs) ∧ E.BI xs) → Rp K F2 dx x → Rp K F2 dy y → g dx dy Qd → (∀ d v' H' G as, Qd d → Res K b E.BI H2 F2 H' G n d v' as → Q v' H') → C x y H2) :
    lE K E 0 ta σ H fun x H1 => lE K E 0 tb σ H1 fun y H2 => C x y H2 := by
  obtain ⟨F, b, env, ex, Qd, R, h, kk⟩ := h
  refine ⟨F, b, env, ex, _, R, h, fun dx x H1 F1 as hx rx => ?_⟩
  obtain ⟨rfl, px⟩ := rx.ow
  have R1 := R.res rx
  refine ⟨F1, b, env, _, _, R1, hx, fun dy y H2 F2 bs hy ry => ?_⟩
  obtain ⟨rfl, py⟩ := ry.ow
  exact k b H2 F2 x y dx dy Qd ry.le ry.hb (px.mono ry.fg) py hy fun d v' H' G as q r => kk d v' H' G as q ((rx.trans ry).trans r)
theorem ve_op {op : Operator} {a b : Expr} {pos : Pos} {ta tb : VT} {n : Nat} {g : D → D → (D → Prop) → Prop} (ho : OpS X E.BI (binaryOp op) n g) (ha : VE X E 0 a ta) (hb : VE X E 0 b tb) : VE X E n (.BinOp a op b pos) (vOp g ta tb) := by
  refine ⟨fun pins s σ H Q I h => ?_⟩
  refine wpAny_BinOp (binT ha hb I (lE_bin (C := fun x y H2 => ∀ v u s2, Inv X pins σ H2 s2 → RelV x v → RelV y u → wpAny (model X.prog X.w) X.A (binaryOp op v u) (EP X pins σ Q) X.xe s2) h fun b H2 F2 x y dx dy Qd le hb px py hg k v u s2 I2 rx ry => ?_) fun v u s2 x y H2 I2 rx ry q => q v u s2 I2 rx ry)
  exact ho pins s2 σ b H2 F2 x y v u dx dy Qd Q I2 le hb rx ry px py hg k
theorem ve_cmp {op : CmpOp} {a b : Expr} {pos : Pos} {ta tb : VT} {n : Nat} {g : D → D → (D → Prop) → Prop} (ho : OpS X E.BI (compareOp op) n g) (ha : VE X E 0 a ta) (hb : VE X E 0 b tb) (hm : behindInMarks op b = false := by first | exact nomark _ | with_unfolding_all rfl) : VE X E n (.Compare a [op] [b] pos) (vOp g ta tb) := by
  refine ⟨fun pins s σ H Q I h => ?_⟩
  refine wpAny_Compare1 (binT ha hb I (lE_bin (C := fun x y H2 => ∀ v u s2, Inv X pins σ H2 s2 → RelV x v → RelV y u → wpAny (model X.prog X.w) X.A (compareOp op v u) (EP X pins σ Q) X.xe s2) h fun b H2 F2 x y dx dy Qd le hb px py hg k v u s2 I2 rx ry => ?_) fun v u s2 x y H2 I2 rx ry q => q v u s2 I2 rx ry) hm
  exact ho pins s2 σ b H2 F2 x y v u dx dy Qd Q I2 le hb rx ry px py hg k
end
end N
end
section
set_option Elab.async false
set_option linter.all false
set_option autoImplicit false
set_option maxRecDepth 100000
/-! N3: expressions, further: tests, truth, operators by values, displays, calls. -/
namespace N
open PySem PySem.Spec PyProof.Rows L2

section
variable {X : Cx} {E : En}
/-! ### tests -/
def onB (Q : Bool → Prop) : D → Prop
  | .bl k => (k = true → Q true) ∧ (k = false → Q false)
  | _ => False
theorem onB_elim {Q : Bool → Prop} {d : D} (h : onB Q d) : ∃ k, d = .bl k ∧ Q k := by
  cases d with
  | bl k =>
    refine ⟨k, rfl, ?_⟩
    cases k with
    | true => exact h.1 rfl
    | false => exact h.2 rfl
  | _ => exact h.elim
def vTB (t : VT) : VTT := fun env Q => t env (onB Q)
theorem Res.bool {K : Fg} {b : Option Addr} {BI : List V → Prop} {H F H' G : Hp} {k : Bool} {v : V} {as : List Addr} (r : Res K b BI H F H' G 0 (.bl k) v as) : v = .bl k ∧ Res K b BI H F H' G 0 .non .non [] := by
  obtain ⟨rfl, e⟩ := r.ow
  refine ⟨by simpa only [Rp] using e, r.sb, r.hb, r.fg, r.le, r.gn, Own.zero (by simp only [Rp]), List.nodup_nil, fun a m => by cases m⟩
theorem Res.unit {K : Fg} {b : Option Addr} {BI : List V → Prop} {H F H' G : Hp} {d : D} {v : V} {as : List Addr} {n : Nat} (r : Res K b BI H F H' G n d v as) : Res K b BI H F H' G 0 .non .non [] :=
  ⟨r.sb, r.hb, r.fg, r.le, r.gn, Own.zero (by simp only [Rp]), List.nodup_nil, fun a m => by cases m⟩
theorem vt_val {e : Expr} {t : VT} (h : VE X E 0 e t) (he : ∀ whole, isTrue e X.env whole = (do let v ← whole; standAt e.pos; holding [v] (truthy v)) := by intro _; rfl) : VTs X E e (vTB t) :=
  PTimp (pt_val h he) fun σ H Q ⟨F, b, env, ex, Qd, R, q, k⟩ => ⟨F, b, env, ex, onB Qd, R, q, fun d v H' F' as hd r => by
    obtain ⟨c, rfl, hc⟩ := onB_elim hd
    obtain ⟨rfl, r'⟩ := r.bool
    exact ⟨c, rfl, k c H' F' hc r'⟩⟩
theorem vt_cmp {op : CmpOp} {a b : Expr} {pos : Pos} {ta tb : VT} {g : D → D → (D → Prop) → Prop} (ho : OpS X E.BI (compareOp op) 0 g) (ha : VE X E 0 a ta) (hb : VE X E 0 b tb) (hm : behindInMarks op b = false := by first | exact nomark _ | with_unfolding_all rfl) : VTs X E (.Compare a [op] [b] pos) (vTB (vOp g ta tb)) := by
  refine ⟨fun pins s σ H Q I h => ?_⟩
  have h' : lE X.K E 0 (vOp g ta tb) σ H (fun v H' => ∃ c, v = .bl c ∧ Q c H') := by
    obtain ⟨F, b, env, ex, Qd, R, q, k⟩ := h
    exact ⟨F, b, env, ex, onB Qd, R, q, fun d v H' F' as hd r => by
      obtain ⟨c, rfl, hc⟩ := onB_elim hd
      obtain ⟨rfl, r'⟩ := r.bool
      exact ⟨c, rfl, k c H' F' hc r'⟩⟩
  refine wpAny_isTrue_Compare1 (binT (R := fun x y H2 => ∀ v u s2, Inv X pins σ H2 s2 → RelV x v → RelV y u → wpAny (model X.prog X.w) X.A (compareOp op v u) (EP X pins σ fun v H' => ∃ c, v = .bl c ∧ Q c H') X.xe s2) ha hb I
    (lE_bin h' _ fun b H2 F2 x y dx dy Qd le hb px py hg k v u s2 I2 rx ry => ho pins s2 σ b H2 F2 x y v u dx dy Qd _ I2 le hb rx ry px py hg k) fun v u s2 x y H2 I2 rx ry q => thn (q v u s2 I2 rx ry) fun c s3 ⟨z, H3, I3, r3, k, e, q3⟩ => ?_) hm
  subst e
  cases r3
  exact wpAny_truthy_bool ⟨H3, I3, q3⟩
def vTNot (t : VTT) : VTT := fun env Q => t env fun k => Q (!k)
def vTAnd (t u : VTT) : VTT := fun env Q => t env fun k => match k with
  | true => u env Q
  | false => Q false
def vTOr (t u : VTT) : VTT := fun env Q => t env fun k => match k with
  | true => Q true
  | false => u env Q
theorem vt_not {a : Expr} {pos : Pos} {t : VTT} (h : VTs X E a t) : VTs X E (.UnaryOp .Not a pos) (vTNot t) :=
  PTimp (pt_not h) fun σ H Q ⟨F, b, env, ex, Qd, R, q, k⟩ => ⟨F, b, env, ex, fun c => Qd (!c), R, q, fun c H' F' hc r => k (!c) H' F' hc r⟩
theorem vw_one {a : Expr} {t : VTT} {pos : Pos} (h : VTs X E a t) : VW X E (.BoolOp .And [a] pos) t := pw_and1 h
theorem vw_one' {a : Expr} {t : VTT} {pos : Pos} (h : VTs X E a t) : VW X E (.BoolOp .Or [a] pos) t := pw_or1 h
theorem vw_and {a b : Expr} {rest : List Expr} {t u : VTT} {pos : Pos} (h : VTs X E a t) (k : VW X E (.BoolOp .And (b :: rest) pos) u) : VW X E (.BoolOp .And (a :: b :: rest) pos) (vTAnd t u) :=
  PWimp (pw_and h k) fun σ H Q ⟨F, b, env, ex, Qd, R, q, k⟩ => ⟨F, b, env, ex, _, R, q, fun c H1 F1 hd r => by
    cases c with
    | true => exact ⟨F1, b, env, _, Qd, R.res r, hd, fun d' H2 F2 hd' r2 => k d' H2 F2 hd' (r.trans r2)⟩
    | false => exact (k _ _ _ hd r)⟩
theorem vw_or {a b : Expr} {rest : List Expr} {t u : VTT} {pos : Pos} (h : VTs X E a t) (k : VW X E (.BoolOp .Or (b :: rest) pos) u) : VW X E (.BoolOp .Or (a :: b :: rest) pos) (vTOr t u) :=
  PWimp (pw_or h k) fun σ H Q ⟨F, b, env, ex, Qd, R, q, k⟩ => ⟨F, b, env, ex, _, R, q, fun c H1 F1 hd r => by
    cases c with
    | true => exact (k _ _ _ hd r)
    | false => exact ⟨F1, b, env, _, Qd, R.res r, hd, fun d' H2 F2 hd' r2 => k d' H2 F2 hd' (r.trans r2)⟩⟩
theorem vt_w {e : Expr} {t : VTT} (h : VW X E e t) : VTs X E e t := PW.pt h

/-! ### truth values as values -/
def vAndV (ta tb : VT) : VT := fun env Q => ta env fun d => match d with
  | .bl k => (k = true → tb env Q) ∧ (k = false → Q (.bl false))
  | _ => False
def vOrV (ta tb : VT) : VT := fun env Q => ta env fun d => match d with
  | .bl k => (k = true → Q (.bl true)) ∧ (k = false → tb env Q)
  | _ => False
def vNotV (ta : VT) : VT := fun env Q => ta env fun d => match d with
  | .bl k => Q (.bl (!k))
  | _ => False
theorem bl_of {K : Fg} {F : Hp} {k : Bool} {v : V} (h : Rp K F (.bl k) v) : v = .bl k := by simpa only [Rp] using h
theorem ve_one {op : BoolOp} {a : Expr} {t : VT} {pos : Pos} (h : VE X E 0 a t) : VE X E 0 (.BoolOp op [a] pos) t := pe_one h
theorem ve_and {a b : Expr} {rest : List Expr} {ta tb : VT} {pos : Pos} (ha : VE X E 0 a ta) (hb : VE X E 0 (.BoolOp .And (b :: rest) pos) tb) : VE X E 0 (.BoolOp .And (a :: b :: rest) pos) (vAndV ta tb) :=
  PEimp (pe_and ha hb) fun σ H Q ⟨F, b, env, ex, Qd, R, q, k⟩ => ⟨F, b, env, ex, _, R, q, fun d v H1 F1 as hd r => by
    cases d with
    | bl c =>
      obtain ⟨rfl, r'⟩ := r.bool
      obtain ⟨rfl, _⟩ := r.ow
      refine ⟨c, rfl, ?_⟩
      cases c with
      | true => exact ⟨F1, b, env, _, Qd, R.res r', hd.1 rfl, fun d' v' H2 F2 as' hd' r2 => k d' v' H2 F2 as' hd' (r'.trans r2)⟩
      | false => exact k _ _ _ _ _ (hd.2 rfl) r
    | _ => exact hd.elim⟩
theorem ve_or {a b : Expr} {rest : List Expr} {ta tb : VT} {pos : Pos} (ha : VE X E 0 a ta) (hb : VE X E 0 (.BoolOp .Or (b :: rest) pos) tb) : VE X E 0 (.BoolOp .Or (a :: b :: rest) pos) (vOrV ta tb) :=
  PEimp (pe_or ha hb) fun σ H Q ⟨F, b, env, ex, Qd, R, q, k⟩ => ⟨F, b, env, ex, _, R, q, fun d v H1 F1 as hd r => by
    cases d with
    | bl c =>
      obtain ⟨rfl, r'⟩ := r.bool
      obtain ⟨rfl, _⟩ := r.ow
      refine ⟨c, rfl, ?_⟩
      cases c with
      | true => exact k _ _ _ _ _ (hd.1 rfl) r
      | false => exact ⟨F1, b, env, _, Qd, R.res r', hd.2 rfl, fun d' v' H2 F2 as' hd' r2 => k d' v' H2 F2 as' hd' (r'.trans r2)⟩
    | _ => exact hd.elim⟩
theorem ve_not {a : Expr} {ta : VT} {pos : Pos} (ha : VE X E 0 a ta) : VE X E 0 (.UnaryOp .Not a pos) (vNotV ta) :=
  PEimp (pe_not ha) fun σ H Q ⟨F, b, env, ex, Qd, R, q, k⟩ => ⟨F, b, env, ex, _, R, q, fun d v H1 F1 as hd r => by
    cases d <;> try exact hd.elim
    rename_i c
    obtain ⟨rfl, r'⟩ := r.bool
    exact ⟨c, rfl, k _ _ _ _ [] hd ⟨r'.sb, r'.hb, r'.fg, r'.le, r'.gn, Own.zero (by simp only [Rp]), List.nodup_nil, fun a m => by cases m⟩⟩⟩
def vIf (t : VTT) (ta tb : VT) : VT := fun env Q => t env fun k => match k with
  | true => ta env Q
  | false => tb env Q
theorem ve_if {c a b : Expr} {t : VTT} {ta tb : VT} {pos : Pos} {n : Nat} (hc : VTs X E c t) (ha : VE X E n a ta) (hb : VE X E n b tb) : VE X E n (.IfExp c a b pos) (vIf t ta tb) :=
  PEimp (pe_ifExp hc ha hb) fun σ H Q ⟨F, b, env, ex, Qd, R, q, k⟩ => ⟨F, b, env, ex, _, R, q, fun c H1 F1 hd r => by
    cases c with
    | true => exact ⟨F1, b, env, _, Qd, R.res r, hd, fun d' v' H2 F2 as' hd' r2 => k d' v' H2 F2 as' hd' (r.trans r2)⟩
    | false => exact ⟨F1, b, env, _, Qd, R.res r, hd, fun d' v' H2 F2 as' hd' r2 => k d' v' H2 F2 as' hd' (r.trans r2)⟩⟩

/-! ### operators by values -/
theorem OpS.of {BI : List V → Prop} {f : Value → Value → Sem Value} {r : R2} {n : Nat} {g : D → D → (D → Prop) → Prop} (ho : OpR X f r)
    (k : ∀ (b : Option Addr) (H F : Hp) (x y : V) (dx dy : D) (Qd : D → Prop) (Q : VK), Sub F H → (∀ a, b = some a → ∃ xs, H a = some (.lst xs) ∧ BI xs) → Rp X.K F dx x → Rp X.K F dy y → g dx dy Qd →
      (∀ d v' H' G as, Qd d → Res X.K b BI H F H' G n d v' as → Q v' H') → r x y H Q) : OpS X BI f n g :=
  fun pins s σ b H F x y v u dx dy Qd Q I le hb rx ry px py h kk => ho pins s σ H x y v u Q I rx ry (k b H F x y dx dy Qd Q le hb px py h kk)
def oI (C : Int → Int → Prop) (g : Int → Int → D) : D → D → (D → Prop) → Prop
  | .int i, .int j, Q => C i j ∧ Q (g i j)
  | _, _, _ => False
theorem oI_elim {C : Int → Int → Prop} {g : Int → Int → D} {x y : D} {Q : D → Prop} (h : oI C g x y Q) : ∃ i j, x = .int i ∧ y = .int j ∧ C i j ∧ Q (g i j) := by
  unfold oI at h
  split at h
  · exact ⟨_, _, rfl, rfl, h⟩
  · exact h.elim
theorem OpS.int {BI : List V → Prop} {f : Value → Value → Sem Value} {C : Int → Int → Prop} {g : Int → Int → V} {gd : Int → Int → D} (hg : ∀ i j F, Rp X.K F (gd i j) (g i j)) (ho : OpR X f (rI C g)) : OpS X BI f 0 (oI C gd) :=
  .of ho fun b H F x y dx dy Qd Q le hb px py h k => by
    obtain ⟨i, j, rfl, rfl, c, q⟩ := oI_elim h
    simp only [Rp] at px py
    exact ⟨i, j, px, py, c, k _ _ _ _ _ q (Res.scal le hb (hg i j F))⟩
def oI0 (g : Int → Int → D) : D → D → (D → Prop) → Prop
  | .int i, .int j, Q => Q (g i j)
  | _, _, _ => False
theorem oI0_elim {g : Int → Int → D} {x y : D} {Q : D → Prop} (h : oI0 g x y Q) : ∃ i j, x = .int i ∧ y = .int j ∧ Q (g i j) := by
  unfold oI0 at h
  split at h
  · exact ⟨_, _, rfl, rfl, h⟩
  · exact h.elim
theorem OpS.int0 {BI : List V → Prop} {f : Value → Value → Sem Value} {g : Int → Int → V} {gd : Int → Int → D} (hg : ∀ i j F, Rp X.K F (gd i j) (g i j)) (ho : OpR X f (rI0 g)) : OpS X BI f 0 (oI0 gd) :=
  .of ho fun b H F x y dx dy Qd Q le hb px py h k => by
    obtain ⟨i, j, rfl, rfl, q⟩ := oI0_elim h
    simp only [Rp] at px py
    exact ⟨i, j, px, py, k _ _ _ _ _ q (Res.scal le hb (hg i j F))⟩
def oSub : D → D → (D → Prop) → Prop := oI0 fun i j => .int (i - j)
def oMulI : D → D → (D → Prop) → Prop := oI CMulW fun i j => .int (i * j)
def oDiv : D → D → (D → Prop) → Prop := oI (fun i j => 0 < j ∧ Builtin.divisionGoesByPylong i j = false) fun i j => .int (i / j)
def oMod : D → D → (D → Prop) → Prop := oI (fun _ j => 0 < j) fun i j => .int (i % j)
def oPow : D → D → (D → Prop) → Prop := oI CPow fun i j => .int (i ^ j.toNat)
def oLt : D → D → (D → Prop) → Prop := oI0 fun i j => .bl (decide (i < j))
def oLe : D → D → (D → Prop) → Prop := oI0 fun i j => .bl (decide (i ≤ j))
def oGt : D → D → (D → Prop) → Prop := oI0 fun i j => .bl (decide (j < i))
def oGe : D → D → (D → Prop) → Prop := oI0 fun i j => .bl (decide (j ≤ i))
theorem ops_sub {BI : List V → Prop} : OpS X BI (binaryOp .Sub) 0 oSub := .int0 (fun i j F => by simp only [Rp]) op_sub
theorem ops_mulI {BI : List V → Prop} : OpS X BI (binaryOp .Mult) 0 oMulI := .int (fun i j F => by simp only [Rp]) op_mulW
theorem op_fdivP : OpR X (binaryOp .FloorDiv) (rI (fun i j => 0 < j ∧ Builtin.divisionGoesByPylong i j = false) fun i j => .int (i / j)) := opI fun i j _ _ _ _ _ hc q => by
  have h1 : (0 : Int) < j := hc.1
  exact floordiv_int (by omega) (by rw [Int.fdiv_eq_ediv_of_nonneg i (by omega)]; exact q) (.inl hc.2)
theorem ops_div {BI : List V → Prop} : OpS X BI (binaryOp .FloorDiv) 0 oDiv := .int (fun i j F => by simp only [Rp]) op_fdivP
theorem ops_mod {BI : List V → Prop} : OpS X BI (binaryOp .Mod) 0 oMod := .int (fun i j F => by simp only [Rp]) op_mod
theorem ops_pow {BI : List V → Prop} : OpS X BI (binaryOp .Pow) 0 oPow := .int (fun i j F => by simp only [Rp]) op_pow
theorem ops_lt {BI : List V → Prop} : OpS X BI (compareOp .Lt) 0 oLt := .int0 (fun i j F => by simp only [Rp]) op_lt
theorem ops_le {BI : List V → Prop} : OpS X BI (compareOp .LtE) 0 oLe := .int0 (fun i j F => by simp only [Rp]) op_le
theorem ops_gt {BI : List V → Prop} : OpS X BI (compareOp .Gt) 0 oGt := .int0 (fun i j F => by simp only [Rp]) op_gt
theorem ops_ge {BI : List V → Prop} : OpS X BI (compareOp .GtE) 0 oGe := .int0 (fun i j F => by simp only [Rp]) op_ge
/-- + of ints, texts, lists (a new one, ours to read), tuples -/
def oAdd : D → D → (D → Prop) → Prop
  | .int i, .int j, Q => Q (.int (i + j))
  | .str i, .str j, Q => i.length + j.length ≤ sizeLine ∧ Q (.str (i ++ j))
  | .lst xs, .lst ys, Q => xs.length + ys.length ≤ sizeLine ∧ Q (.lst (xs ++ ys))
  | .tup xs, .tup ys, Q => xs ≠ [] ∧ ys ≠ [] ∧ xs.length + ys.length ≤ sizeLine ∧ Q (.tup (xs ++ ys))
  | _, _, _ => False
theorem ops_add {BI : List V → Prop} : OpS X BI (binaryOp .Add) 0 oAdd := by
  intro pins s σ b H F x y v u dx dy Qd Q I le hb rx ry px py h k
  unfold oAdd at h
  split at h
  · simp only [Rp] at px py
    exact op_add pins s σ H x y v u Q I rx ry ⟨_, _, px, py, k _ _ _ _ _ h (Res.scal le hb (by simp only [Rp]))⟩
  · simp only [Rp] at px py
    exact op_add_str pins s σ H x y v u Q I rx ry ⟨_, _, px, py, h.1, k _ _ _ _ _ h.2 (Res.scal le hb (by simp only [Rp]))⟩
  · rename_i ds es
    simp only [Rp] at px py
    obtain ⟨a, xs, rfl, h1, r1⟩ := px
    obtain ⟨c, ys, rfl, h2, r2⟩ := py
    exact op_cat pins s σ H _ _ v u Q I rx ry ⟨a, c, xs, ys, rfl, rfl, le _ _ h1, le _ _ h2, by rw [r1.length, r2.length]; exact h.1, fun p hp => k _ _ _ _ _ h.2 (Res.new le hb hp (by
      have fp : F p = none := by
        cases q : F p with
        | none => rfl
        | some w => rw [le p w q] at hp; cases hp
      simp only [Rp]
      exact ⟨p, _, rfl, upd_same, (r1.append r2).mono (Sub.new fp)⟩))⟩
  · rename_i ds es
    simp only [Rp] at px py
    obtain ⟨a, xs, rfl, h1, r1⟩ := px
    obtain ⟨c, ys, rfl, h2, r2⟩ := py
    obtain ⟨n1, n2, hl, q⟩ := h
    have l1 := r1.length
    have l2 := r2.length
    have m1 : xs ≠ [] := fun e => by subst e; exact n1 (List.eq_nil_of_length_eq_zero l1.symm)
    have m2 : ys ≠ [] := fun e => by subst e; exact n2 (List.eq_nil_of_length_eq_zero l2.symm)
    exact op_catT pins s σ H _ _ v u Q I rx ry ⟨a, c, xs, ys, rfl, rfl, le.sqT h1, le.sqT h2, m1, by rw [l1, l2]; exact hl, fun e => absurd e m2, fun _ p hp => k _ _ _ _ _ q (Res.new le hb hp (by
      have fp : F p = none := by
        cases q : F p with
        | none => rfl
        | some w => rw [le p w q] at hp; cases hp
      simp only [Rp]
      exact ⟨p, _, rfl, .inl (.inl upd_same), (r1.append r2).mono (Sub.new fp)⟩))⟩
  · exact h.elim
end
end N
end
section
set_option Elab.async false
set_option linter.all false
set_option autoImplicit false
set_option maxRecDepth 100000
/-! N4: equality, membership, displays, subscripts, argument lists. -/
namespace N
open PySem PySem.Spec PyProof.Rows L2

/-! ### plain data -/
mutual
def D.py : D → PyData
  | .non => .none
  | .bl b => .bool b
  | .int i => .int i
  | .str x => .str x
  | .lst xs => .list (D.pys xs)
  | .tup xs => .tuple (D.pys xs)
  | _ => .none
def D.pys : List D → List PyData
  | [] => []
  | x :: xs => x.py :: D.pys xs
end
mutual
def D.sh : D → Nat → Prop
  | .non, _ => True
  | .bl _, _ => True
  | .int _, _ => True
  | .str x, _ => PyData.strOk x = true
  | .lst xs, n + 1 => D.shs xs n
  | .tup xs, n + 1 => D.shs xs n
  | _, _ => False
def D.shs : List D → Nat → Prop
  | [], _ => True
  | x :: xs, n => x.sh n ∧ D.shs xs n
end
mutual
theorem D.sh_lay : ∀ (d : D) (n : Nat), d.sh n → d.py.canLay0 = true ∧ d.py.depth ≤ n
  | .non, n, _ => by simp [D.py, PyData.canLay0, PyData.depth]
  | .bl _, n, _ => by simp [D.py, PyData.canLay0, PyData.depth]
  | .int _, n, _ => by simp [D.py, PyData.canLay0, PyData.depth]
  | .str x, n, h => by
    simp only [D.sh] at h
    simp [D.py, PyData.canLay0, PyData.depth, h]
  | .lst xs, n + 1, h => by
    simp only [D.sh] at h
    have := D.shs_lay xs n h
    simp only [D.py, PyData.canLay0, PyData.depth]
    exact ⟨this.1, by omega⟩
  | .tup xs, n + 1, h => by
    simp only [D.sh] at h
    have := D.shs_lay xs n h
    simp only [D.py, PyData.canLay0, PyData.depth]
    exact ⟨this.1, by omega⟩
  | .lst xs, 0, h => by simp only [D.sh] at h
  | .tup xs, 0, h => by simp only [D.sh] at h
  | .ty _, n, h => by simp only [D.sh] at h
  | .obj _ _, n, h => by simp only [D.sh] at h
  | .dic _, n, h => by simp only [D.sh] at h
  | .ref _, n, h => by simp only [D.sh] at h
  | .scr _, n, h => by simp only [D.sh] at h
  | .bag, n, h => by simp only [D.sh] at h
theorem D.shs_lay : ∀ (ds : List D) (n : Nat), D.shs ds n → PyData.canLayAll0 (D.pys ds) = true ∧ PyData.depthAll (D.pys ds) ≤ n
  | [], n, _ => by simp [D.pys, PyData.canLayAll0, PyData.depthAll]
  | x :: xs, n, h => by
    simp only [D.shs] at h
    have h1 := D.sh_lay x n h.1
    have h2 := D.shs_lay xs n h.2
    simp only [D.pys, PyData.canLayAll0, PyData.depthAll, h1.1, h2.1, Bool.and_self, true_and]
    omega
end
theorem D.shs_of : ∀ {ds : List D} {n : Nat}, (∀ d ∈ ds, d.sh n) → D.shs ds n
  | [], n, _ => by simp only [D.shs]
  | x :: xs, n, h => by
    simp only [D.shs]
    exact ⟨h x List.mem_cons_self, D.shs_of fun d m => h d (List.mem_cons_of_mem _ m)⟩
theorem D.pys_map : ∀ ds : List D, D.pys ds = ds.map D.py
  | [] => by simp only [D.pys, List.map_nil]
  | x :: xs => by simp only [D.pys, List.map_cons, D.pys_map xs]
theorem D.shaped {d : D} {n : Nat} (h : d.sh n) (hn : n ≤ 64 := by decide) : SeqAt.shaped d.py = true := by
  obtain ⟨h1, h2⟩ := D.sh_lay d n h
  unfold SeqAt.shaped
  rw [h1, decide_eq_true (show d.py.depth ≤ 64 by omega)]
  rfl
mutual
theorem Rp.dp {K : Fg} {F H : Hp} (s : Sub F H) : ∀ {d : D} {v : V} {n : Nat}, Rp K F d v → d.sh n → Dp K H v d.py
  | .non, _, _, h, _ => by simp only [Rp] at h; subst h; simp only [D.py]; exact .non
  | .bl b, _, _, h, _ => by simp only [Rp] at h; subst h; simp only [D.py]; exact .bl b
  | .int i, _, _, h, _ => by simp only [Rp] at h; subst h; simp only [D.py]; exact .int i
  | .str x, _, _, h, _ => by simp only [Rp] at h; subst h; simp only [D.py]; exact .str x
  | .lst ds, _, n + 1, h, k => by
    simp only [Rp] at h
    obtain ⟨a, xs, rfl, e, r⟩ := h
    simp only [D.sh] at k
    simp only [D.py]
    exact .lst (.inl (.inl (s _ _ e))) (RpAll.dp s r k)
  | .tup ds, _, n + 1, h, k => by
    simp only [Rp] at h
    obtain ⟨a, xs, rfl, e, r⟩ := h
    simp only [D.sh] at k
    simp only [D.py]
    exact .tup (s.sqT e) (RpAll.dp s r k)
  | .lst xs, _, 0, _, h => by simp only [D.sh] at h
  | .tup xs, _, 0, _, h => by simp only [D.sh] at h
  | .ty _, _, n, _, h => by simp only [D.sh] at h
  | .obj _ _, _, n, _, h => by simp only [D.sh] at h
  | .dic _, _, n, _, h => by simp only [D.sh] at h
  | .ref _, _, n, _, h => by simp only [D.sh] at h
  | .scr _, _, n, _, h => by simp only [D.sh] at h
  | .bag, _, n, _, h => by simp only [D.sh] at h
theorem RpAll.dp {K : Fg} {F H : Hp} (s : Sub F H) : ∀ {ds : List D} {vs : List V} {n : Nat}, RpAll K F ds vs → D.shs ds n → DpAll K H vs (D.pys ds)
  | [], _, _, h, _ => by simp only [RpAll] at h; subst h; simp only [D.pys]; exact .nil
  | d :: ds, _, _, h, k => by
    simp only [RpAll] at h
    obtain ⟨v, r, rfl, h1, h2⟩ := h
    simp only [D.shs] at k
    simp only [D.pys]
    exact .cons (Rp.dp s h1 k.1) (RpAll.dp s h2 k.2)
end

section
variable {X : Cx} {E : En}
/-! ### ==, != -/
def oEq (x y : D) (Q : D → Prop) : Prop := x.sh 60 ∧ y.sh 60 ∧ Q (.bl (PyData.eqv x.py y.py))
def oNe (x y : D) (Q : D → Prop) : Prop := x.sh 60 ∧ y.sh 60 ∧ Q (.bl (!PyData.eqv x.py y.py))
theorem ops_eq {BI : List V → Prop} (hu : X.A.units + 64 < cLine) : OpS X BI (compareOp .Eq) 0 oEq :=
  .of (op_eqD hu) fun b H F x y dx dy Qd Q le hb px py ⟨h1, h2, q⟩ k => ⟨_, _, px.dp le h1, py.dp le h2, D.shaped h1, D.shaped h2, k _ _ _ _ _ q (Res.scal le hb (by simp only [Rp]))⟩
theorem ops_ne {BI : List V → Prop} (hu : X.A.units + 64 < cLine) : OpS X BI (compareOp .NotEq) 0 oNe :=
  .of (op_neD hu) fun b H F x y dx dy Qd Q le hb px py ⟨h1, h2, q⟩ k => ⟨_, _, px.dp le h1, py.dp le h2, D.shaped h1, D.shaped h2, k _ _ _ _ _ q (Res.scal le hb (by simp only [Rp]))⟩
def D.isN : D → Bool
  | .non => true
  | _ => false
theorem D.isN_v {K : Fg} {F : Hp} {d : D} {v : V} (h : Rp K F d v) : decide (v = .non) = d.isN := by
  cases d <;> simp only [Rp] at h <;> simp only [D.isN]
  case non => subst h; rfl
  case bl => subst h; rfl
  case int => subst h; rfl
  case str => subst h; rfl
  case ty => subst h; rfl
  case ref => subst h; rfl
  case lst => obtain ⟨_, _, rfl, _⟩ := h; rfl
  case tup => obtain ⟨_, _, rfl, _⟩ := h; rfl
  case obj => obtain ⟨_, _, _, rfl, _⟩ := h; rfl
  case dic => obtain ⟨_, _, rfl, _⟩ := h; rfl
  case scr => obtain ⟨_, rfl, _⟩ := h; rfl
def oIs (x y : D) (Q : D → Prop) : Prop := y = .non ∧ Q (.bl x.isN)
def oIsNot (x y : D) (Q : D → Prop) : Prop := y = .non ∧ Q (.bl (!x.isN))
theorem ops_is {BI : List V → Prop} : OpS X BI (compareOp .Is) 0 oIs :=
  .of op_isN fun b H F x y dx dy Qd Q le hb px py ⟨h1, q⟩ k => by
    subst h1
    simp only [Rp] at py
    exact ⟨py, by rw [D.isN_v px]; exact k _ _ _ _ _ q (Res.scal le hb (by simp only [Rp]))⟩
theorem ops_isNot {BI : List V → Prop} : OpS X BI (compareOp .IsNot) 0 oIsNot :=
  .of op_notN fun b H F x y dx dy Qd Q le hb px py ⟨h1, q⟩ k => by
    subst h1
    simp only [Rp] at py
    exact ⟨py, by rw [D.isN_v px]; exact k _ _ _ _ _ q (Res.scal le hb (by simp only [Rp]))⟩
/-! ### in -/
def oIn (nf : Bool → Bool) (x y : D) (Q : D → Prop) : Prop := match y with
  | .lst ys => x.sh 50 ∧ D.shs ys 50 ∧ Q (.bl (nf ((D.pys ys).any fun z => PyData.eqv z x.py)))
  | .str z => ∃ c : Nat, x = .str ⟨#[c]⟩ ∧ Q (.bl (nf (decide (c ∈ z.cps.toList))))
  | _ => False
theorem ops_in {BI : List V → Prop} (hu : X.A.units + 65 < cLine) : OpS X BI (compareOp .In) 0 (oIn id) := by
  intro pins s σ b H F x y v u dx dy Qd Q I le hb rx ry px py h k
  unfold oIn at h
  split at h
  · rename_i ys
    obtain ⟨h1, h2, q⟩ := h
    have hl : (D.lst ys).sh 51 := by simp only [D.sh]; exact h2
    exact op_inD hu pins s σ H x y v u Q I rx ry ⟨dx.py, D.pys ys, px.dp le h1, by have := py.dp le hl; simpa only [D.py] using this, D.shaped h1, by have := D.shaped hl; simpa only [D.py] using this,
      k _ _ _ _ _ q (Res.scal le hb (by simp only [Rp, id]))⟩
  · rename_i z
    obtain ⟨c, rfl, q⟩ := h
    simp only [Rp] at px py
    exact op_in_sign pins s σ H x y v u Q I rx ry ⟨c, z, px, py, k _ _ _ _ _ q (Res.scal le hb (by simp only [Rp, id]))⟩
  · exact h.elim
theorem ops_notIn {BI : List V → Prop} (hu : X.A.units + 65 < cLine) : OpS X BI (compareOp .NotIn) 0 (oIn not) := by
  intro pins s σ b H F x y v u dx dy Qd Q I le hb rx ry px py h k
  unfold oIn at h
  split at h
  · rename_i ys
    obtain ⟨h1, h2, q⟩ := h
    have hl : (D.lst ys).sh 51 := by simp only [D.sh]; exact h2
    exact op_notInD hu pins s σ H x y v u Q I rx ry ⟨dx.py, D.pys ys, px.dp le h1, by have := py.dp le hl; simpa only [D.py] using this, D.shaped h1, by have := D.shaped hl; simpa only [D.py] using this,
      k _ _ _ _ _ q (Res.scal le hb (by simp only [Rp, id]))⟩
  · rename_i z
    obtain ⟨c, rfl, q⟩ := h
    simp only [Rp] at px py
    exact op_notIn_sign pins s σ H x y v u Q I rx ry ⟨c, z, px, py, k _ _ _ _ _ q (Res.scal le hb (by simp only [Rp, id]))⟩
  · exact h.elim

/-! ### argument lists, displays -/
def vNil : VTA := fun _ Q => Q []
def vCons (t : VT) (r : VTA) : VTA := fun env Q => t env fun x => r env fun xs => Q (x :: xs)
def vBag (i : Nat) (r : VTA) : VTA := fun env Q => match env[i]? with
  | some .bg => r env fun xs => Q (.bag :: xs)
  | _ => False
theorem RpAs.mono {K : Fg} {F G : Hp} {b : Option Addr} (x : Sub F G) : ∀ {fl : List Bool} {ds : List D} {vs : List V}, RpAs K F b fl ds vs → RpAs K G b fl ds vs
  | [], [], _, h => h
  | true :: fl, d :: ds, _, ⟨e, a, r, e1, e2, h⟩ => ⟨e, a, r, e1, e2, RpAs.mono x h⟩
  | false :: fl, d :: ds, _, ⟨v, r, e, h1, h2⟩ => ⟨v, r, e, h1.mono x, RpAs.mono x h2⟩
theorem va_nil : VA X E [] [] vNil := PAimp pa_nil fun σ H Q ⟨F, b, env, ex, Qd, R, q, k⟩ => k [] [] H F q (Res.scal R.le R.hbb (by simp only [Rp])) rfl
theorem va_cons {fl : List Bool} {e : Expr} {es : List Expr} {t : VT} {r : VTA} (h : VE X E 0 e t) (hr : VA X E fl es r) (hs : starEach (e :: es) X.env = (false, eval e X.env) :: starEach es X.env := by rfl) : VA X E (false :: fl) (e :: es) (vCons t r) :=
  PAimp (pa_cons h hr hs) fun σ H Q ⟨F, b, env, ex, Qd, R, q, k⟩ => ⟨F, b, env, ex, _, R, q, fun d v H1 F1 as hd r1 => by
    obtain ⟨rfl, p⟩ := r1.ow
    exact ⟨F1, b, env, _, _, R.res r1, hd, fun ds vs H2 F2 hds r2 ps => k _ _ H2 F2 hds (r1.trans r2) ⟨v, vs, rfl, p.mono r2.fg, ps⟩⟩⟩
theorem va_bag (i : Nat) {fl : List Bool} {x : Str} {p : Pos} {es : List Expr} {r : VTA} (hr : VA X E fl es r) (hN : X.N[i]? = some x := by rfl) (hv : Vis X.env.scope x := by first | exact Or.inl rfl | exact Or.inr (Or.inl rfl) | exact Or.inr (Or.inr rfl)) (hd : (x == ("__debug__" : Str)) = false := by decide)
    (hcd : (x == ("__classdict__" : Str)) = false := by decide) (hs : starEach (.Name x p :: es) X.env = (false, eval (.Name x p) X.env) :: starEach es X.env := by rfl) : VA X E (true :: fl) (.Name x p :: es) (vBag i r) :=
  PAimp (pa_cons (pe_var hN hv hd hcd) hr hs) fun σ H Q ⟨F, b, env, ex, Qd, R, q, k⟩ => by
    unfold vBag at q
    split at q
    · rename_i e
      obtain ⟨x, as, h1, ⟨rfl, a, e1, rfl⟩, h3⟩ := R.slot e
      exact ⟨_, h1, F, b, env, ex, _, R, q, fun ds vs H2 F2 hds r2 ps => k _ _ H2 F2 hds r2 ⟨rfl, a, vs, e1, rfl, ps⟩⟩
    · exact q.elim
def noFl (fl : List Bool) : Bool := fl.all (!·)
theorem RpAs.all {K : Fg} {F : Hp} {b : Option Addr} : ∀ {fl : List Bool} {ds : List D} {vs : List V}, RpAs K F b fl ds vs → noFl fl = true → RpAll K F ds vs
  | [], [], _, h, _ => by simp only [RpAll]; exact h
  | true :: fl, d :: ds, _, h, n => by simp [noFl] at n
  | false :: fl, d :: ds, _, ⟨v, r, e, h1, h2⟩, n => by
    simp only [RpAll]
    exact ⟨v, r, e, h1, RpAs.all h2 (by simpa [noFl] using n)⟩
def vTup (t : VTA) : VT := fun env Q => t env fun ds => ds.length ≤ sizeLine ∧ Q (.tup ds)
def vLst (t : VTA) : VT := fun env Q => t env fun ds => ds.length ≤ sizeLine ∧ Q (.lst ds)
theorem fnone {F H : Hp} {p : Addr} (le : Sub F H) (hp : H p = none) : F p = none := by
  cases q : F p with
  | none => rfl
  | some w => rw [le p w q] at hp; cases hp
theorem ve_tup {fl : List Bool} {es : List Expr} {t : VTA} {k : Nat} {pos : Pos} (h : VA X E fl es t) (hf : noFl fl = true := by rfl) : VE X E 0 (.Tuple es k pos) (vTup t) :=
  PEimp (pe_tup h) fun σ H Q ⟨F, b, env, ex, Qd, R, q, k⟩ => ⟨F, b, env, ex, _, R, q, fun ds vs H1 F1 ⟨hl, hq⟩ r ps => by
    have pa := ps.all hf
    refine ⟨by rw [pa.length]; exact hl, fun p hp => k _ _ _ _ _ hq (r.trans (Res.new r.le r.hb hp ?_))⟩
    simp only [Rp]
    exact ⟨p, vs, rfl, .inl (.inl upd_same), pa.mono (Sub.new (fnone r.le hp))⟩⟩
theorem ve_lst {fl : List Bool} {es : List Expr} {t : VTA} {pos : Pos} (h : VA X E fl es t) (hf : noFl fl = true := by rfl) : VE X E 0 (.List es pos) (vLst t) :=
  PEimp (pe_lst h) fun σ H Q ⟨F, b, env, ex, Qd, R, q, k⟩ => ⟨F, b, env, ex, _, R, q, fun ds vs H1 F1 ⟨hl, hq⟩ r ps => by
    have pa := ps.all hf
    refine ⟨by rw [pa.length]; exact hl, fun p hp => k _ _ _ _ _ hq (r.trans (Res.new r.le r.hb hp ?_))⟩
    simp only [Rp]
    exact ⟨p, vs, rfl, upd_same, pa.mono (Sub.new (fnone r.le hp))⟩⟩
theorem ve_lst1 {fl : List Bool} {es : List Expr} {t : VTA} {pos : Pos} (h : VA X E fl es t) (hf : noFl fl = true := by rfl) : VE X E 1 (.List es pos) (vLst t) :=
  PEimp (pe_lst h) fun σ H Q ⟨F, b, env, ex, Qd, R, q, k⟩ => ⟨F, b, env, ex, _, R, q, fun ds vs H1 F1 ⟨hl, hq⟩ r ps => by
    have pa := ps.all hf
    exact ⟨by rw [pa.length]; exact hl, fun p hp => k _ _ _ _ _ hq (r.trans (Res.own r.le r.hb hp pa))⟩⟩

/-! ### subscripts -/
/-- an item of a list, a tuple, a text, the script -/
def oIx : D → D → (D → Prop) → Prop
  | .lst xs, .int i, Q => ∃ d, atI xs i = some d ∧ Q d
  | .tup xs, .int i, Q => ∃ d, atI xs i = some d ∧ Q d
  | .str z, .int i, Q => z.length ≤ sizeLine ∧ ∃ c, atI z.cps.toList i = some c ∧ Q (.str ⟨#[c]⟩)
  | .scr ns, .int i, Q => ∃ n, atI ns i = some n ∧ Q (.int n)
  | _, _, _ => False
theorem atI_rel {α β : Type} {P : α → β → Prop} {xs : List α} {ys : List β} (hl : ys.length = xs.length) (h : ∀ (i : Nat) (x : α), xs[i]? = some x → ∃ y, ys[i]? = some y ∧ P x y) {i : Int} {x : α} (e : atI xs i = some x) : ∃ y, atI ys i = some y ∧ P x y := by
  unfold atI at e ⊢
  rw [hl]
  cases q : ixN xs.length i with
  | none => rw [q] at e; cases e
  | some j =>
    rw [q] at e
    exact h j x e
theorem ve_ix {a i : Expr} {ta ti : VT} {pos : Pos} (ha : VE X E 0 a ta) (hi : VE X E 0 i ti) (hs : PlainIx i := by exact fun _ _ => rfl) : VE X E 0 (.Subscript a i pos) (vOp oIx ta ti) :=
  PEimp (pe_ix ix_seq ha hi hs) fun σ H Q q => lE_bin (n := 0) q _ fun b H2 F2 x y dx dy Qd le hb px py hg k => by
    unfold oIx at hg
    split at hg
    · obtain ⟨d, e, q⟩ := hg
      simp only [Rp] at px py
      obtain ⟨p, vs, rfl, h1, ps⟩ := px
      subst py
      obtain ⟨v, ev, pv⟩ := atI_rel ps.length (fun i x e => ps.get e) e
      exact .inl ⟨p, vs, _, v, rfl, rfl, .inl (.inl (le _ _ h1)), ev, k _ _ _ _ _ q (Res.scal le hb pv)⟩
    · obtain ⟨d, e, q⟩ := hg
      simp only [Rp] at px py
      obtain ⟨p, vs, rfl, h1, ps⟩ := px
      subst py
      obtain ⟨v, ev, pv⟩ := atI_rel ps.length (fun i x e => ps.get e) e
      exact .inr (.inl ⟨p, vs, _, v, rfl, rfl, le.sqT h1, ev, k _ _ _ _ _ q (Res.scal le hb pv)⟩)
    · obtain ⟨hl, c, e, q⟩ := hg
      simp only [Rp] at px py
      exact .inr (.inr ⟨_, _, c, px, py, hl, e, k _ _ _ _ _ q (Res.scal le hb (by simp only [Rp]))⟩)
    · obtain ⟨n, e, q⟩ := hg
      simp only [Rp] at px py
      obtain ⟨p, rfl, h1⟩ := px
      subst py
      refine .inl ⟨p, _, _, .int n, rfl, rfl, le.sqL h1, ?_, k _ _ _ _ _ q (Res.scal le hb (by simp only [Rp]))⟩
      obtain ⟨y, e1, e2⟩ := atI_rel (P := fun (n : Int) (v : V) => v = .int n) (List.length_map ..) (fun i x e => ⟨.int x, by rw [List.getElem?_map, e]; rfl, rfl⟩) e
      rw [e1, e2]
    · exact hg.elim
/-! ### slices -/
abbrev VTO := Env → (Option Int → Prop) → Prop
def vONone : VTO := fun _ Q => Q none
def onI (Q : Option Int → Prop) : D → Prop
  | .int i => Q (some i)
  | _ => False
def vOSome (t : VT) : VTO := fun env Q => t env (onI Q)
def VO (X : Cx) (E : En) (e : Option Expr) (t : VTO) : Prop := PO X e fun σ H Q => ∃ F b env ex Qd, RepS X.K E σ H F b env ex ∧ t env Qd ∧ ∀ o H' F', Qd o → Res X.K b E.BI H F H' F' 0 .non .non [] → Q o H'
theorem vo_none : VO X E none vONone := ⟨fun pins s σ H Q I ⟨F, b, env, ex, Qd, R, q, k⟩ => po_none.run pins s σ H Q I (k none H F q (Res.scal R.le R.hbb (by simp only [Rp])))⟩
theorem vo_some {e : Expr} {t : VT} (h : VE X E 0 e t) : VO X E (some e) (vOSome t) := ⟨fun pins s σ H Q I ⟨F, b, env, ex, Qd, R, q, k⟩ => (po_some h).run pins s σ H Q I ⟨F, b, env, ex, _, R, q, fun d v H1 F1 as hd r => by
  cases d with
  | int i =>
    have e : v = .int i := by
      obtain ⟨_, p⟩ := r.ow
      simpa only [Rp] using p
    exact ⟨i, e, k (some i) H1 F1 hd r.unit⟩
  | _ => exact hd.elim⟩⟩
def cutD {α : Type} (xs : List α) (lo hi : Option Int) : List α := (xs.drop (HT.sIx xs.length 0 lo)).take (HT.sIx xs.length xs.length hi - HT.sIx xs.length 0 lo)
def oSl (n : Nat) : D → Option Int → Option Int → (D → Prop) → Prop
  | .lst xs, lo, hi, Q => Q (.lst (cutD xs lo hi))
  | .scr xs, lo, hi, Q => Q (.lst (cutD (xs.map D.int) lo hi))
  | .str z, lo, hi, Q => n = 0 ∧ z.length ≤ sizeLine ∧ Q (.str (cutS z lo hi))
  | _, _, _, _ => False
theorem SlR_or {r r' : V → Option Int → Option Int → Hp → VK → Prop} (h : L2.SlR X r) (h' : L2.SlR X r') : L2.SlR X fun x l u H Q => r x l u H Q ∨ r' x l u H Q := by
  intro pins s σ H x v vl vu lo hi sl Q I rx hs pl pu hq
  rcases hq with hq | hq
  · exact h pins s σ H x v vl vu lo hi sl Q I rx hs pl pu hq
  · exact h' pins s σ H x v vl vu lo hi sl Q I rx hs pl pu hq
def vSl (n : Nat) (te : VT) (tl th : VTO) : VT := fun env Q => te env fun d => tl env fun l => th env fun u => oSl n d l u Q
theorem RpAll.drop {K : Fg} {F : Hp} : ∀ {ds : List D} {vs : List V} (n : Nat), RpAll K F ds vs → RpAll K F (ds.drop n) (vs.drop n)
  | [], _, n, h => by simp only [RpAll] at h; subst h; simp only [List.drop_nil, RpAll]
  | d :: ds, _, 0, h => h
  | d :: ds, _, n + 1, h => by
    simp only [RpAll] at h
    obtain ⟨v, r, rfl, h1, h2⟩ := h
    exact RpAll.drop n h2
theorem RpAll.take {K : Fg} {F : Hp} : ∀ {ds : List D} {vs : List V} (n : Nat), RpAll K F ds vs → RpAll K F (ds.take n) (vs.take n)
  | [], _, n, h => by simp only [RpAll] at h; subst h; simp only [List.take_nil, RpAll]
  | d :: ds, _, 0, h => by simp only [List.take_zero, RpAll]
  | d :: ds, _, n + 1, h => by
    simp only [RpAll] at h
    obtain ⟨v, r, rfl, h1, h2⟩ := h
    simp only [List.take_succ_cons, RpAll]
    exact ⟨v, _, rfl, h1, RpAll.take n h2⟩
theorem RpAll.cut {K : Fg} {F : Hp} {ds : List D} {vs : List V} (lo hi : Option Int) (h : RpAll K F ds vs) : RpAll K F (cutD ds lo hi) (cutV vs lo hi) := by
  unfold cutD cutV
  rw [h.length]
  exact (h.drop _).take _
theorem RpAll.ints {K : Fg} {F : Hp} : ∀ ns : List Int, RpAll K F (ns.map D.int) (ns.map V.int)
  | [] => by simp only [List.map_nil, RpAll]
  | n :: ns => by
    simp only [List.map_cons, RpAll]
    exact ⟨_, _, rfl, by simp only [Rp], RpAll.ints ns⟩
theorem sl_core {n : Nat} (hn : n = 0 ∨ n = 1) {a : Expr} {lo hi : Option Expr} {ta : VT} {tl th : VTO} {p2 pos : Pos} (ha : VE X E 0 a ta) (hl : VO X E lo tl) (hh : VO X E hi th) : VE X E n (.Subscript a (.Slice lo hi none p2) pos) (vSl n ta tl th) :=
  PEimp (pe_slice (SlR_or sl_list sl_str) ha hl hh) fun σ H Q ⟨F, b, env, ex, Qd, R, q, k⟩ => ⟨F, b, env, ex, _, R, q, fun d v H1 F1 as hd r1 => by
    obtain ⟨rfl, p⟩ := r1.ow
    refine ⟨F1, b, env, _, _, R.res r1, hd, fun l H2 F2 hl r2 => ?_⟩
    refine ⟨F2, b, env, _, _, (R.res r1).res r2, hl, fun u H3 F3 hu r3 => ?_⟩
    have r12 := (r1.trans r2).trans r3
    have p3 := (p.mono r2.fg).mono r3.fg
    have fin : ∀ (ds : List D) (vs : List V), Qd (.lst ds) → RpAll X.K F3 ds vs → ∀ a, H3 a = none → Q (.ref a) (upd H3 a (.lst vs)) := fun ds vs hq ps a ha => by
      rcases hn with rfl | rfl
      · refine k _ _ _ _ _ hq (r12.trans (Res.new r3.le r3.hb ha ?_))
        simp only [Rp]
        exact ⟨a, vs, rfl, upd_same, ps.mono (Sub.new (fnone r3.le ha))⟩
      · exact k _ _ _ _ _ hq (r12.trans (Res.own r3.le r3.hb ha ps))
    unfold oSl at hu
    split at hu
    · simp only [Rp] at p3
      obtain ⟨a, xs, rfl, h1, ps⟩ := p3
      exact .inl ⟨a, xs, rfl, .inl (.inl (r3.le _ _ h1)), fun p hp => fin _ _ hu (ps.cut l u) p hp⟩
    · rename_i ns
      simp only [Rp] at p3
      obtain ⟨a, rfl, h1⟩ := p3
      exact .inl ⟨a, _, rfl, r3.le.sqL h1, fun p hp => fin _ _ hu ((RpAll.ints ns).cut l u) p hp⟩
    · simp only [Rp] at p3
      obtain ⟨rfl, h2, h3⟩ := hu
      exact .inr ⟨_, p3, h2, k _ _ _ _ _ h3 (r12.trans (Res.scal r3.le r3.hb (by simp only [Rp])))⟩
    · exact hu.elim⟩
end
end N
end
section
set_option Elab.async false
set_option linter.all false
set_option autoImplicit false
set_option maxRecDepth 100000
/-! N5: targets, statements, loops, comprehensions by values. -/
namespace N
open PySem PySem.Spec PyProof.Rows L2

structure VEnds where
  nx : Env → Prop
  rt : D → Env → Prop
  bk : Env → Prop
  ct : Env → Prop
abbrev VST := VEnds → Env → Prop
def lS (K : Fg) (E : En) (lv : Nat) (t : VST) : TS := fun Dn σ H => ∃ F b env Vd, RepS K E σ H F b env [] ∧ t Vd env ∧
  (∀ σ' H' F' b' env', Vd.nx env' → Sub F F' → RepS K E σ' H' F' b' env' [] → Dn.nx σ' H') ∧
  (∀ σ' H' F' b' env', Vd.bk env' → Sub F F' → RepS K E σ' H' F' b' env' [] → Dn.bk σ' H') ∧
  (∀ σ' H' F' b' env', Vd.ct env' → Sub F F' → RepS K E σ' H' F' b' env' [] → Dn.ct σ' H') ∧
  (∀ d v σ' H' F' b' env' as, Vd.rt d env' → RepS K E σ' H' F' b' env' as → Own K H' F' lv d v as → Dn.rt v H')
def VS (X : Cx) (E : En) (lv : Nat) (st : Stmt) (t : VST) : Prop := PS X st (lS X.K E lv t)
def VSs (X : Cx) (E : En) (lv : Nat) (sts : List Stmt) (t : VST) : Prop := PSs X sts (lS X.K E lv t)
section
variable {X : Cx} {E : En} {lv : Nat}
def vNext : VST := fun Vd env => Vd.nx env
def vSeq (t u : VST) : VST := fun Vd env => t { Vd with nx := u Vd } env
theorem vss_nil : VSs X E lv [] vNext := PSsimp pss_nil fun Dn σ H ⟨F, b, env, Vd, R, h, k1, k2, k3, k4⟩ => k1 σ H F b env h (Sub.refl F) R
theorem vss_cons {st : Stmt} {sts : List Stmt} {t u : VST} (h1 : VS X E lv st t) (h2 : VSs X E lv sts u) : VSs X E lv (st :: sts) (vSeq t u) :=
  PSsimp (pss_cons h1 h2) fun Dn σ H ⟨F, b, env, Vd, R, h, k1, k2, k3, k4⟩ => ⟨F, b, env, _, R, h,
    fun σ' H' F' b' env' hn s R' => ⟨F', b', env', Vd, R', hn, fun σ2 H2 F2 b2 e2 n s2 => k1 σ2 H2 F2 b2 e2 n (s.trans s2), fun σ2 H2 F2 b2 e2 n s2 => k2 σ2 H2 F2 b2 e2 n (s.trans s2), fun σ2 H2 F2 b2 e2 n s2 => k3 σ2 H2 F2 b2 e2 n (s.trans s2), k4⟩, k2, k3, k4⟩
theorem vss_one {st : Stmt} {t : VST} (h : VS X E lv st t) : VSs X E lv [st] t := pss_one h
theorem vs_pass {pos : Pos} : VS X E lv (.Pass pos) vNext := PSimp ps_pass fun Dn σ H ⟨F, b, env, Vd, R, h, k1, k2, k3, k4⟩ => k1 σ H F b env h (Sub.refl F) R
theorem vs_doc {x : Str} {j : Nat} {pos pos' : Pos} : VS X E lv (.Expr (.Constant (.str x) j pos) pos') vNext := PSimp ps_doc fun Dn σ H ⟨F, b, env, Vd, R, h, k1, k2, k3, k4⟩ => k1 σ H F b env h (Sub.refl F) R
def vBreak : VST := fun Vd env => Vd.bk env
def vCont : VST := fun Vd env => Vd.ct env
theorem vs_break {pos : Pos} : VS X E lv (.Break pos) vBreak := PSimp ps_break fun Dn σ H ⟨F, b, env, Vd, R, h, k1, k2, k3, k4⟩ => k2 σ H F b env h (Sub.refl F) R
theorem vs_cont {pos : Pos} : VS X E lv (.Continue pos) vCont := PSimp ps_continue fun Dn σ H ⟨F, b, env, Vd, R, h, k1, k2, k3, k4⟩ => k3 σ H F b env h (Sub.refl F) R
/-- what is never reached -/
def vNever : VST := fun _ _ => False
theorem vs_never {st : Stmt} : VS X E lv st vNever := ⟨fun _ _ _ _ _ _ ⟨F, b, env, Vd, R, h, _⟩ => h.elim⟩
theorem vss_never {sts : List Stmt} : VSs X E lv sts vNever := ⟨fun _ _ _ _ _ _ ⟨F, b, env, Vd, R, h, _⟩ => h.elim⟩
def vIfS (c : VTT) (t u : VST) : VST := fun Vd env => c env fun k => match k with
  | true => t Vd env
  | false => u Vd env
theorem vs_if {c : Expr} {a b : List Stmt} {tc : VTT} {t u : VST} {pos : Pos} (hc : VTs X E c tc) (ha : VSs X E lv a t) (hb : VSs X E lv b u) : VS X E lv (.If c a b pos) (vIfS tc t u) :=
  PSimp (ps_if hc ha hb) fun Dn σ H ⟨F, b, env, Vd, R, h, k1, k2, k3, k4⟩ => ⟨F, b, env, [], _, R, h, fun k H1 F1 hk r => by
    have R1 := R.res r
    cases k with
    | true => exact ⟨F1, b, env, Vd, R1, hk, fun σ2 H2 F2 b2 e2 n s2 => k1 σ2 H2 F2 b2 e2 n (r.fg.trans s2), fun σ2 H2 F2 b2 e2 n s2 => k2 σ2 H2 F2 b2 e2 n (r.fg.trans s2), fun σ2 H2 F2 b2 e2 n s2 => k3 σ2 H2 F2 b2 e2 n (r.fg.trans s2), k4⟩
    | false => exact ⟨F1, b, env, Vd, R1, hk, fun σ2 H2 F2 b2 e2 n s2 => k1 σ2 H2 F2 b2 e2 n (r.fg.trans s2), fun σ2 H2 F2 b2 e2 n s2 => k2 σ2 H2 F2 b2 e2 n (r.fg.trans s2), fun σ2 H2 F2 b2 e2 n s2 => k3 σ2 H2 F2 b2 e2 n (r.fg.trans s2), k4⟩⟩
def vRet (t : VT) : VST := fun Vd env => t env fun d => Vd.rt d env
theorem vs_ret {e : Expr} {t : VT} {pos : Pos} (h : VE X E lv e t) : VS X E lv (.Return (some e) pos) (vRet t) :=
  PSimp (ps_ret h) fun Dn σ H ⟨F, b, env, Vd, R, h, k1, k2, k3, k4⟩ => ⟨F, b, env, [], _, R, h, fun d v H1 F1 as hd r => k4 d v σ H1 F1 b env as hd (by have := R.res r; rwa [List.append_nil] at this) r.ow⟩
def vRetN : VST := fun Vd env => Vd.rt .non env
theorem vs_retN {pos : Pos} : VS X E 0 (.Return none pos) vRetN :=
  PSimp ps_retN fun Dn σ H ⟨F, b, env, Vd, R, h, k1, k2, k3, k4⟩ => k4 .non .non σ H F b env [] h R (Own.zero (by simp only [Rp]))
/-! ### storing -/
theorem RepS.store {K : Fg} {σ : L2.St} {H F H' F' : Hp} {b b' : Option Addr} {env : Env} {ex as : List Addr} {i : Nat} {s : Sl} {x : Option V} (R : RepS K E σ H F b env (as ++ ex)) (hs : SlR K H F b s x as) (nd : ex.Nodup) : RepS K E (σ.set i x) H F b (env.set i s) ex := by
  refine ⟨R.le, R.f0, R.nw, R.sb, R.bg, R.bn, R.b0, by rw [List.length_set, List.length_set]; exact R.len, ?_, nd, fun a m => R.exm a (List.mem_append_right _ m)⟩
  obtain ⟨tag, q, hx⟩ := R.sl
  have xas : ∀ a ∈ as, a ∉ ex := fun a m z => (List.nodup_append.mp R.exn).2.2 a m a z rfl
  refine ⟨fun a => if a ∈ as then some i else if tag a = some i then none else tag a, fun j t y e1 e2 => ?_, fun a m => ?_⟩
  · by_cases z : i = j
    · subst z
      have h1 : i < env.length := by
        have := (List.getElem?_eq_some_iff.mp e1).1
        rwa [List.length_set] at this
      have h2 : i < σ.length := by rw [← R.len]; exact h1
      rw [List.getElem?_set_self h1] at e1
      rw [List.getElem?_set_self h2] at e2
      cases e1
      cases e2
      refine ⟨as, hs, (List.nodup_append.mp R.exn).1, fun a m => ⟨?_, R.exm a (List.mem_append_left _ m)⟩⟩
      dsimp only
      rw [if_pos m]
    · rw [List.getElem?_set_ne z] at e1 e2
      obtain ⟨bs, h1, h2, h3⟩ := q j t y e1 e2
      refine ⟨bs, h1, h2, fun a m => ⟨?_, (h3 a m).2⟩⟩
      have n1 : a ∉ as := fun w => by
        have := hx a (List.mem_append_left _ w)
        rw [(h3 a m).1] at this
        cases this
      have n2 : ¬ tag a = some i := by
        rw [(h3 a m).1]
        intro w
        exact z (Option.some.inj w).symm
      dsimp only
      rw [if_neg n1, if_neg n2]
      exact (h3 a m).1
  · dsimp only
    rw [if_neg fun w => xas a w m]
    rw [hx a (List.mem_append_right _ m)]
    split <;> rfl
/-- x = e -/
def vSet (i n : Nat) (t : VT) : VST := fun Vd env => t env fun d => Vd.nx (env.set i (.ow n d))
theorem vs_set (i n : Nat) {x : Str} {e : Expr} {t : VT} {pos pos' : Pos} (he : VE X E n e t) (hN : X.N.Nodup := by exact nd) (hi : X.N[i]? = some x := by rfl) (hx : Loc X.env.scope x := by first | exact .inl rfl | exact .inr rfl) (hs : swapsWith e (some (.Name x pos')) pos.line X.env = pure false := by rfl)
    (hf : X.fn x = true ∨ X.env.scope.names.lookup x = some .local := by first | exact .inl rfl | exact .inr rfl) : VS X E lv (.Assign [.Name x pos'] e pos) (vSet i n t) :=
  PSimp (ps_set hN hi hx he hs hf) fun Dn σ H ⟨F, b, env, Vd, R, h, k1, k2, k3, k4⟩ => ⟨F, b, env, [], _, R, h, fun d v H1 F1 as hd r => by
    refine k1 _ _ F1 b _ hd r.fg (RepS.store (as := as) (H' := H1) (F' := F1) (b' := b) (R.res r) ?_ List.nodup_nil)
    exact ⟨v, rfl, r.ow⟩⟩
/-! ### targets -/
abbrev VG := D → Env → (Env → Prop) → Prop
abbrev VGs := List D → Env → (Env → Prop) → Prop
def lG (K : Fg) (E : En) (is : List Nat) (vg : VG) : TG := fun v σ H Q => ∃ F b env ex d Qe, RepS K E σ H F b env ex ∧ Rp K F d v ∧ vg d env Qe ∧
  ∀ env' σ', Qe env' → RepS K E σ' H F b env' ex → (∀ j, j ∉ is → σ'[j]? = σ[j]?) → σ'.length = σ.length → Q σ' H
def lGs (K : Fg) (E : En) (is : List Nat) (vg : VGs) : TGs := fun vs σ H Q => ∃ F b env ex ds Qe, RepS K E σ H F b env ex ∧ RpAll K F ds vs ∧ vg ds env Qe ∧
  ∀ env' σ', Qe env' → RepS K E σ' H F b env' ex → (∀ j, j ∉ is → σ'[j]? = σ[j]?) → σ'.length = σ.length → Q σ' H
def VTg (X : Cx) (E : En) (is : List Nat) (tg : Expr) (vg : VG) : Prop := PG X tg (lG X.K E is vg)
def VTgs (X : Cx) (E : En) (is : List Nat) (tgs : List Expr) (vg : VGs) : Prop := PGs X tgs (lGs X.K E is vg)
theorem PGimp {e : Expr} {t t' : TG} (h : PG X e t) (k : ∀ v σ H Q, t' v σ H Q → t v σ H Q) : PG X e t' := ⟨fun pins s σ H v u Q I r q => h.run pins s σ H v u Q I r (k v σ H Q q)⟩
theorem PGsimp {e : List Expr} {t t' : TGs} (h : PGs X e t) (k : ∀ v σ H Q, t' v σ H Q → t v σ H Q) : PGs X e t' := ⟨fun pins s σ H v u Q I r q => h.run pins s σ H v u Q I r (k v σ H Q q)⟩
def vgName (i : Nat) : VG := fun d env Q => Q (env.set i (.ow 0 d))
theorem vg_name (i : Nat) {x : Str} {pos : Pos} (hN : X.N.Nodup := by exact nd) (hi : X.N[i]? = some x := by rfl) (hx : Loc X.env.scope x := by first | exact .inl rfl | exact .inr rfl)
    (hf : X.fn x = true ∨ X.env.scope.names.lookup x = some .local := by first | exact .inl rfl | exact .inr rfl) : VTg X E [i] (.Name x pos) (vgName i) :=
  PGimp (pg_name hN hi hx hf) fun v σ H Q ⟨F, b, env, ex, d, Qe, R, r, h, k⟩ => by
    refine k _ _ h (RepS.store (as := []) (H' := H) (F' := F) (b' := b) R ⟨v, rfl, Own.zero r⟩ R.exn) (fun j nj => ?_) List.length_set
    exact List.getElem?_set_ne (fun e => nj (by rw [e]; exact List.mem_singleton_self _))
def vgNil : VGs := fun ds env Q => ds = [] ∧ Q env
def vgCons (t : VG) (u : VGs) : VGs := fun ds env Q => match ds with
  | d :: r => t d env fun env' => u r env' Q
  | [] => False
theorem vgs_nil : VTgs X E [] [] vgNil := PGsimp pgs_nil fun vs σ H Q ⟨F, b, env, ex, ds, Qe, R, r, h, k⟩ => by
  obtain ⟨rfl, q⟩ := h
  simp only [RpAll] at r
  exact ⟨r, k env σ q R (fun j _ => rfl) rfl⟩
theorem vgs_cons {e : Expr} {es : List Expr} {t : VG} {u : VGs} {is js : List Nat} (h1 : VTg X E is e t) (h2 : VTgs X E js es u)
    (hs : (assignEach (e :: es) X.env).map (·.2) = assign e X.env :: (assignEach es X.env).map (·.2) := by rfl) : VTgs X E (is ++ js) (e :: es) (vgCons t u) :=
  PGsimp (pgs_cons h1 h2 hs) fun vs σ H Q ⟨F, b, env, ex, ds, Qe, R, r, h, k⟩ => by
    unfold vgCons at h
    cases ds with
    | nil => exact h.elim
    | cons d ds =>
      simp only [RpAll] at r
      obtain ⟨v, vr, rfl, r1, r2⟩ := r
      exact ⟨v, vr, rfl, F, b, env, ex, d, _, R, r1, h, fun env' σ' hq R' hj hl => ⟨F, b, env', ex, ds, Qe, R', r2, hq, fun env2 σ2 hq2 R2 hj2 hl2 => k env2 σ2 hq2 R2 (fun j nj =>
        (hj2 j fun m => nj (List.mem_append_right _ m)).trans (hj j fun m => nj (List.mem_append_left _ m))) (hl2.trans hl)⟩⟩
def vgTup (n : Nat) (t : VGs) : VG := fun d env Q => match d with
  | .tup ds => ds.length = n ∧ t ds env Q
  | _ => False
theorem vg_tup {es : List Expr} {k n : Nat} {t : VGs} {is : List Nat} {pos : Pos} (h : VTgs X E is es t) (hc : X.calm = true := by rfl)
    (hn : (assignEach es X.env).length = n := by rfl) (hst : (assignEach es X.env).findIdx? (·.1) = none := by rfl) : VTg X E is (.Tuple es k pos) (vgTup n t) :=
  PGimp (pg_tup hc h hn hst) fun v σ H Q ⟨F, b, env, ex, d, Qe, R, r, h, k⟩ => by
    unfold vgTup at h
    cases d with
    | tup ds =>
      simp only [Rp] at r
      obtain ⟨a, xs, rfl, h1, ps⟩ := r
      exact ⟨a, xs, rfl, R.le.sqT h1, by rw [ps.length]; exact h.1, F, b, env, ex, ds, Qe, R, ps, h.2, k⟩
    | _ => exact h.elim
/-- target = e -/
def vAsg (t : VT) (g : VG) : VST := fun Vd env => t env fun d => g d env Vd.nx
theorem vs_asg {tg e : Expr} {t : VT} {g : VG} {is : List Nat} {pos : Pos} (he : VE X E 0 e t) (hg : VTg X E is tg g) (hs : swapsWithSole [tg] e pos.line X.env = pure false := by rfl) (hw : swappedStores [tg] e X.env = pure none := by rfl)
    (h1 : (assignEach [tg] X.env).map (·.2) = [assign tg X.env] := by rfl) : VS X E lv (.Assign [tg] e pos) (vAsg t g) :=
  PSimp (ps_asg he hg hs hw h1) fun Dn σ H ⟨F, b, env, Vd, R, h, k1, k2, k3, k4⟩ => ⟨F, b, env, [], _, R, h, fun d v H1 F1 as hd r => by
    obtain ⟨rfl, p⟩ := r.ow
    exact ⟨F1, b, env, [], d, _, R.res r, p, hd, fun env' σ' hq R' _ _ => k1 σ' H1 F1 b env' hq r.fg R'⟩⟩
/-- a, b = x, y -/
def vPar (i j : Nat) (t : VTA) : VST := fun Vd env => t env fun ds => match ds with
  | [x, y] => Vd.nx ((env.set i (.ow 0 x)).set j (.ow 0 y))
  | _ => False
theorem vs_par (i j : Nat) {x y : Str} {a b : Expr} {ta : VTA} {px py pt : Pos} {kt k2 : Nat} {pt2 pos : Pos} (ha : VA X E [false, false] [a, b] ta) (hc : X.calm = true := by rfl) (hN : X.N.Nodup := by exact nd) (hi : X.N[i]? = some x := by rfl) (hj : X.N[j]? = some y := by rfl) (hij : i ≠ j := by decide)
    (hx : X.env.scope.names.lookup x = some .local := by rfl) (hy : X.env.scope.names.lookup y = some .local := by rfl)
    (hw : swappedStores [.Tuple [.Name x px, .Name y py] kt pt] (.Tuple [a, b] k2 pt2) X.env = pure (some [x, y]) := by rfl)
    (hs : swapsWithSole [.Tuple [.Name x px, .Name y py] kt pt] (.Tuple [a, b] k2 pt2) pos.line X.env = pure false := by rfl) : VS X E lv (.Assign [.Tuple [.Name x px, .Name y py] kt pt] (.Tuple [a, b] k2 pt2) pos) (vPar i j ta) :=
  PSimp (ps_par hc hN hi hj hij hx hy ha hw hs) fun Dn σ H ⟨F, b, env, Vd, R, h, k1, k2, k3, k4⟩ => ⟨F, b, env, [], _, R, h, fun ds vs H1 F1 hd r ps => by
    split at hd
    · rename_i d e
      have hq := hd
      have pa := ps.all rfl
      simp only [RpAll] at pa
      obtain ⟨v, r1, rfl, p1, w, r2, rfl, p2, rfl⟩ := pa
      have R1 := R.res r
      have R2 : RepS X.K E (σ.set i (some v)) H1 F1 b (env.set i (.ow 0 d)) [] := RepS.store (as := []) (H' := H1) (F' := F1) (b' := b) R1 ⟨v, rfl, Own.zero p1⟩ R1.exn
      have R3 : RepS X.K E ((σ.set i (some v)).set j (some w)) H1 F1 b ((env.set i (.ow 0 d)).set j (.ow 0 e)) [] := RepS.store (as := []) (H' := H1) (F' := F1) (b' := b) R2 ⟨w, rfl, Own.zero p2⟩ R1.exn
      exact ⟨v, w, rfl, k1 _ _ F1 b _ hq r.fg R3⟩
    · exact hd.elim⟩
/-- a ghost step: what x holds is no longer ours alone -/
def vFrz (i : Nat) (t : VST) : VST := fun Vd env => match env[i]? with
  | some (.ow (n + 1) d) => t Vd (env.set i (.ow 0 d))
  | _ => t Vd env
theorem RepS.frz {K : Fg} {σ : L2.St} {H F : Hp} {b : Option Addr} {env : Env} {i n : Nat} {d : D} (R : RepS K E σ H F b env []) (h : env[i]? = some (.ow n d)) : ∃ F', Sub F F' ∧ RepS K E σ H F' b (env.set i (.ow 0 d)) [] := by
  obtain ⟨tag, q, hx⟩ := R.sl
  have hi : i < env.length := (List.getElem?_eq_some_iff.mp h).1
  have hi2 : i < σ.length := by rw [← R.len]; exact hi
  obtain ⟨as, ⟨v, ev, ho⟩, nd, ha⟩ := q i _ σ[i] h (List.getElem?_eq_getElem hi2)
  have fa : ∀ a ∈ as, F a = none := fun a m => (ha a m).2.f
  have sF := Fz.sub (H := H) fa
  refine ⟨Fz F H as, sF, Fz.le R.le, R.f0.trans sF, fun a o e => ?_, R.sb, fun a e => ?_, R.bn, R.b0, by rw [List.length_set]; exact R.len, ⟨tag, fun j s x e1 e2 => ?_, hx⟩, R.exn, fun a m => by cases m⟩
  · unfold Fz at e
    by_cases m : a ∈ as
    · exact .inr (ha a m).2.h0
    · rw [if_neg m] at e
      exact R.nw a o e
  · obtain ⟨f, k⟩ := R.bg a e
    refine ⟨?_, k⟩
    unfold Fz
    by_cases m : a ∈ as
    · exfalso
      rcases e with e | e
      · exact (ha a m).2.nb e
      · exact (ha a m).2.nb0 R e
    · rw [if_neg m]
      exact f
  · by_cases z : i = j
    · subst z
      rw [List.getElem?_set_self hi] at e1
      cases e1
      rw [List.getElem?_eq_getElem hi2] at e2
      cases e2
      exact ⟨[], ⟨v, ev, Own.zero (ho.frz fa)⟩, List.nodup_nil, fun a m => by cases m⟩
    · rw [List.getElem?_set_ne z] at e1
      obtain ⟨bs, h1, h2, h3⟩ := q j s x e1 e2
      have nin : ∀ a ∈ bs, a ∉ as := fun a m w => by
        have t1 := (h3 a m).1
        rw [(ha a w).1] at t1
        exact z (Option.some.inj t1)
      refine ⟨bs, ?_, h2, fun a m => ⟨(h3 a m).1, ?_, (h3 a m).2.h0, (h3 a m).2.nb, (h3 a m).2.h⟩⟩
      · cases s with
        | un => exact h1
        | bg => exact h1
        | ow k d' =>
          obtain ⟨u, eu, o'⟩ := h1
          exact ⟨u, eu, Own.keep sF o' fun a m => rfl⟩
      · unfold Fz
        rw [if_neg (nin a m)]
        exact (h3 a m).2.f
theorem vs_frz (i : Nat) {st : Stmt} {t : VST} (h : VS X E lv st t) : VS X E lv st (vFrz i t) := PSimp h fun Dn σ H ⟨F, b, env, Vd, R, q, k1, k2, k3, k4⟩ => by
  unfold vFrz at q
  split at q
  · rename_i n d e
    obtain ⟨F', s, R'⟩ := R.frz e
    exact ⟨F', b, _, Vd, R', q, fun σ2 H2 F2 b2 e2 n s2 => k1 σ2 H2 F2 b2 e2 n (s.trans s2), fun σ2 H2 F2 b2 e2 n s2 => k2 σ2 H2 F2 b2 e2 n (s.trans s2), fun σ2 H2 F2 b2 e2 n s2 => k3 σ2 H2 F2 b2 e2 n (s.trans s2), k4⟩
  · exact ⟨F, b, env, Vd, R, q, k1, k2, k3, k4⟩

/-! ### what is walked -/
structure ItOk (K : Fg) (J : It) (F : Hp) (ds : List D) : Prop where
  go : ∀ i H, Sub F H → i < ds.length → J.go i H
  stop : ∀ i H, Sub F H → ds.length ≤ i → J.stop i H
  yld : ∀ i H x H' d, Sub F H → ds[i]? = some d → J.yld i H x H' → Sub H H' ∧ Rp K (nwR F H H') d x
abbrev VTI := Env → (List D → Prop) → Prop
def lI (K : Fg) (E : En) (t : VTI) : TI := fun σ H R => ∃ F b env ex Qd, RepS K E σ H F b env ex ∧ t env Qd ∧
  ∀ ds J H' F', Qd ds → Res K b E.BI H F H' F' 0 .non .non [] → ItOk K J F' ds → R J H'
def VI (X : Cx) (E : En) (tg iter : Expr) (t : VTI) : Prop := PI X tg iter (lI X.K E t)
theorem PIimp {tg e : Expr} {t t' : TI} (h : PI X tg e t) (k : ∀ σ H Q, t' σ H Q → t σ H Q) : PI X tg e t' := ⟨fun pins s σ H Q I q => h.run pins s σ H Q I (k σ H Q q)⟩
theorem Res.nil {K : Fg} {b : Option Addr} {BI : List V → Prop} {H F : Hp} (le : Sub F H) (hb : ∀ a, b = some a → ∃ xs, H a = some (.lst xs) ∧ BI xs) : Res K b BI H F H F 0 .non .non [] := Res.scal le hb (by simp only [Rp])
/-- over a list or the script -/
def oItL : D → (List D → Prop) → Prop
  | .lst ds, Q => Q ds
  | .scr ns, Q => Q (ns.map .int)
  | _, _ => False
def viL (t : VT) : VTI := fun env Q => t env fun d => oItL d Q
theorem ItOk.list {K : Fg} {F : Hp} {a : Addr} {xs : List V} {ds : List D} (h : SqL K F a xs) (r : RpAll K F ds xs) : ItOk K (Itl K a) F ds where
  go := fun i H s hi => by
    have : i < xs.length := by rw [r.length]; exact hi
    exact ⟨xs, xs[i], s.sqL h, List.getElem?_eq_getElem this⟩
  stop := fun i H s hi => ⟨xs, s.sqL h, by rw [r.length]; exact hi⟩
  yld := fun i H x H' d s e y => by
    obtain ⟨rfl, y⟩ := y
    obtain ⟨v, ev, rv⟩ := r.get e
    have := y xs (s.sqL h)
    rw [ev] at this
    cases this
    exact ⟨Sub.refl _, rv.mono (nwR.sub s)⟩
theorem vi_list {tg e : Expr} {t : VT} (h : VE X E 0 e t) : VI X E tg e (viL t) :=
  PIimp (pi_list h) fun σ H Q ⟨F, b, env, ex, Qd, R, q, k⟩ => ⟨F, b, env, ex, _, R, q, fun d v H1 F1 as hd r => by
    obtain ⟨rfl, p⟩ := r.ow
    unfold oItL at hd
    split at hd
    · simp only [Rp] at p
      obtain ⟨a, xs, rfl, h1, ps⟩ := p
      exact ⟨a, rfl, ⟨xs, .inl (.inl (r.le _ _ h1))⟩, k _ _ _ _ hd r.unit (.list (.inl (.inl h1)) ps)⟩
    · simp only [Rp] at p
      obtain ⟨a, rfl, h1⟩ := p
      exact ⟨a, rfl, ⟨_, r.le.sqL h1⟩, k _ _ _ _ hd r.unit (.list h1 (RpAll.ints _))⟩
    · exact hd.elim⟩
theorem vi_tup {tg e : Expr} {t : VT} (h : VE X E 0 e t) : VI X E tg e (fun env Q => t env fun d => match d with | .tup ds => Q ds | _ => False) :=
  PIimp (pi_tup h) fun σ H Q ⟨F, b, env, ex, Qd, R, q, k⟩ => ⟨F, b, env, ex, _, R, q, fun d v H1 F1 as hd r => by
    obtain ⟨rfl, p⟩ := r.ow
    cases d with
    | tup ds =>
      simp only [Rp] at p
      obtain ⟨a, xs, rfl, h1, ps⟩ := p
      refine ⟨a, rfl, ⟨xs, r.le.sqT h1⟩, k _ _ _ _ hd r.unit ⟨fun i H s hi => ?_, fun i H s hi => ⟨xs, s.sqT h1, by rw [ps.length]; exact hi⟩, fun i H x H' d s e y => ?_⟩⟩
      · have : i < xs.length := by rw [ps.length]; exact hi
        exact ⟨xs, xs[i], s.sqT h1, List.getElem?_eq_getElem this⟩
      · obtain ⟨rfl, y⟩ := y
        obtain ⟨v, ev, rv⟩ := ps.get e
        have := y xs (s.sqT h1)
        rw [ev] at this
        cases this
        exact ⟨Sub.refl _, rv.mono (nwR.sub s)⟩
    | _ => exact hd.elim⟩
def intsD (lo : Int) (n : Nat) : List D := (List.range n).map fun (i : Nat) => .int (lo + (i : Int))
theorem ItOk.rng {K : Fg} {F : Hp} {lo : Int} {n : Nat} : ItOk K (Itr lo n) F (intsD lo n) where
  go := fun i H s hi => by show i < n; simpa [intsD] using hi
  stop := fun i H s hi => by show n ≤ i; simpa [intsD] using hi
  yld := fun i H x H' d s e y => by
    obtain ⟨rfl, rfl⟩ := y
    unfold intsD at e
    rw [List.getElem?_map] at e
    cases q : (List.range n)[i]? with
    | none => rw [q] at e; cases e
    | some j =>
      rw [q] at e
      obtain ⟨h1, h2⟩ := List.getElem?_eq_some_iff.mp q
      rw [List.getElem_range] at h2
      subst h2
      cases e
      exact ⟨Sub.refl _, by simp only [Rp]⟩
def viR1 (t : VTA) : VTI := fun env Q => t env fun ds => match ds with
  | [.int j] => j < 2 ^ 62 ∧ -(2 ^ 62) ≤ j ∧ Q (intsD 0 j.toNat)
  | _ => False
def viR2 (t : VTA) : VTI := fun env Q => t env fun ds => match ds with
  | [.int i, .int j] => (-(2 ^ 62) ≤ i ∧ i < 2 ^ 62 ∧ -(2 ^ 62) ≤ j ∧ j < 2 ^ 62) ∧ Q (intsD i (j - i).toNat)
  | _ => False
theorem vi_r1 {tg a : Expr} {t : VTA} {p pos : Pos} (ha : VA X E [false] [a] t) (hm : X.mg "range" = none) (hg : Gl X "range" := by rfl) (hs : starEach [a] X.env = [(false, eval a X.env)] := by rfl) : VI X E tg (.Call (.Name "range" p) [a] [] pos) (viR1 t) :=
  PIimp (pi_range1 hg hm ha hs) fun σ H Q ⟨F, b, env, ex, Qd, R, q, k⟩ => ⟨F, b, env, ex, _, R, q, fun ds vs H1 F1 hd r ps => by
    split at hd
    · simp only [RpAs, Rp] at ps
      obtain ⟨v, r2, rfl, rfl, rfl⟩ := ps
      exact ⟨_, rfl, hd.2.1, hd.1, k _ _ _ _ hd.2.2 r .rng⟩
    · exact hd.elim⟩
theorem vi_r2 {tg a c : Expr} {t : VTA} {p pos : Pos} (ha : VA X E [false, false] [a, c] t) (hm : X.mg "range" = none) (hg : Gl X "range" := by rfl) (hs : starEach [a, c] X.env = [(false, eval a X.env), (false, eval c X.env)] := by rfl) (hs2 : starEach [c] X.env = [(false, eval c X.env)] := by rfl) : VI X E tg (.Call (.Name "range" p) [a, c] [] pos) (viR2 t) :=
  PIimp (pi_range2 hg hm ha hs hs2) fun σ H Q ⟨F, b, env, ex, Qd, R, q, k⟩ => ⟨F, b, env, ex, _, R, q, fun ds vs H1 F1 hd r ps => by
    split at hd
    · simp only [RpAs, Rp] at ps
      obtain ⟨v, r2, rfl, rfl, w, r3, rfl, rfl, rfl⟩ := ps
      exact ⟨_, _, rfl, hd.1, k _ _ _ _ hd.2 r .rng⟩
    · exact hd.elim⟩
def enumD (ds : List D) : List D := (List.range ds.length).zip ds |>.map fun p => .tup [.int p.1, p.2]
def zipD (ds es : List D) : List D := (ds.zip es).map fun p => .tup [p.1, p.2]
theorem Rp.pair {K : Fg} {F H : Hp} {T : Addr} {d e : D} {x y : V} (hT : H T = none) (s : Sub F H) (rx : Rp K F d x) (ry : Rp K F e y) : Rp K (nwR F H (upd H T (.tup [x, y]))) (.tup [d, e]) (.ref T) := by
  have sn : Sub F (nwR F H (upd H T (.tup [x, y]))) := nwR.sub s
  simp only [Rp, RpAll]
  refine ⟨T, [x, y], rfl, .inl (.inl ?_), x, [y], rfl, rx.mono sn, y, [], rfl, ry.mono sn, rfl⟩
  unfold nwR
  rw [hT]
  exact upd_same
theorem vi_enum {es : List Expr} {kk : Nat} {tpos : Pos} {a : Expr} {t : VTA} {p pos : Pos} (ha : VA X E [false] [a] t) (hm : X.mg "enumerate" = none) (hg : Gl X "enumerate" := by rfl) (hs : starEach [a] X.env = [(false, eval a X.env)] := by rfl) :
    VI X E (.Tuple es kk tpos) (.Call (.Name "enumerate" p) [a] [] pos) (fun env Q => t env fun ds => match ds with | [.lst xs] => Q (enumD xs) | _ => False) :=
  PIimp (pi_enum hg hm ha hs) fun σ H Q ⟨F, b, env, ex, Qd, R, q, k⟩ => ⟨F, b, env, ex, _, R, q, fun ds vs H1 F1 hd r ps => by
    split at hd
    · rename_i ds
      simp only [RpAs, Rp] at ps
      obtain ⟨v, r2, rfl, ⟨a, xs, rfl, h1, pa⟩, rfl⟩ := ps
      refine ⟨a, xs, rfl, .inl (.inl (r.le _ _ h1)), k _ _ _ _ hd r ⟨fun i H s hi => ?_, fun i H s hi => ?_, fun i H x H' d s e y => ?_⟩⟩
      · have : i < xs.length := by rw [pa.length]; simpa [enumD] using hi
        exact ⟨xs, xs[i], .inl (.inl (s _ _ h1)), List.getElem?_eq_getElem this⟩
      · exact ⟨xs, .inl (.inl (s _ _ h1)), by rw [pa.length]; simpa [enumD] using hi⟩
      · obtain ⟨T, w, rfl, hT, rfl, y⟩ := y
        unfold enumD at e
        rw [List.getElem?_map] at e
        cases q : ((List.range ds.length).zip ds)[i]? with
        | none => rw [q] at e; cases e
        | some z =>
          rw [q] at e
          cases e
          obtain ⟨z1, z2⟩ := List.getElem?_zip_eq_some.mp q
          obtain ⟨v, ev, rv⟩ := pa.get z2
          have := y xs (.inl (.inl (s _ _ h1)))
          rw [ev] at this
          cases this
          obtain ⟨u1, u2⟩ := List.getElem?_eq_some_iff.mp z1
          rw [List.getElem_range] at u2
          exact ⟨Sub.new hT, by dsimp only; rw [← u2]; exact Rp.pair hT s (by simp only [Rp]) rv⟩
    · exact hd.elim⟩
theorem vi_zip {es : List Expr} {kk : Nat} {tpos : Pos} {a c : Expr} {t : VTA} {p pos : Pos} (ha : VA X E [false, false] [a, c] t) (hm : X.mg "zip" = none) (hg : Gl X "zip" := by rfl) (hs : starEach [a, c] X.env = (false, eval a X.env) :: starEach [c] X.env := by rfl) (hpl : (backTo pos (starEach [c] X.env)).any (·.1) = false := by rfl) :
    VI X E (.Tuple es kk tpos) (.Call (.Name "zip" p) [a, c] [] pos) (fun env Q => t env fun ds => match ds with | [.lst xs, .lst ys] => Q (zipD xs ys) | _ => False) :=
  PIimp (pi_zip hg hm ha hs hpl) fun σ H Q ⟨F, b, env, ex, Qd, R, q, k⟩ => ⟨F, b, env, ex, _, R, q, fun ds vs H1 F1 hd r ps => by
    split at hd
    · rename_i ds es
      simp only [RpAs, Rp] at ps
      obtain ⟨v, r2, rfl, ⟨a, xs, rfl, h1, pa⟩, v2, r3, rfl, ⟨c, ys, rfl, h2, pc⟩, rfl⟩ := ps
      refine ⟨a, c, xs, ys, rfl, .inl (.inl (r.le _ _ h1)), .inl (.inl (r.le _ _ h2)), k _ _ _ _ hd r ⟨fun i H s hi => ?_, fun i H s hi => ?_, fun i H x H' d s e y => ?_⟩⟩
      · have hi' : i < ds.length ∧ i < es.length := by
          simp only [zipD, List.length_map, List.length_zip] at hi
          omega
        have i1 : i < xs.length := by rw [pa.length]; exact hi'.1
        have i2 : i < ys.length := by rw [pc.length]; exact hi'.2
        exact ⟨xs, ys, xs[i], ys[i], .inl (.inl (s _ _ h1)), .inl (.inl (s _ _ h2)), List.getElem?_eq_getElem i1, List.getElem?_eq_getElem i2⟩
      · have hi' : ds.length ≤ i ∨ es.length ≤ i := by
          simp only [zipD, List.length_map, List.length_zip] at hi
          omega
        refine ⟨xs, ys, .inl (.inl (s _ _ h1)), .inl (.inl (s _ _ h2)), ?_⟩
        rw [pa.length, pc.length]
        exact hi'
      · obtain ⟨T, w, u, rfl, hT, rfl, y1, y2⟩ := y
        unfold zipD at e
        rw [List.getElem?_map] at e
        cases q : (ds.zip es)[i]? with
        | none => rw [q] at e; cases e
        | some z =>
          rw [q] at e
          cases e
          obtain ⟨z1, z2⟩ := List.getElem?_zip_eq_some.mp q
          obtain ⟨v, ev, rv⟩ := pa.get z1
          obtain ⟨v', ev', rv'⟩ := pc.get z2
          have t1 := y1 xs (.inl (.inl (s _ _ h1)))
          have t2 := y2 ys (.inl (.inl (s _ _ h2)))
          rw [ev] at t1
          rw [ev'] at t2
          cases t1
          cases t2
          exact ⟨Sub.new hT, Rp.pair hT s rv rv'⟩
    · exact hd.elim⟩
def signs (x : Str) : List D := x.cps.toList.map fun c => .str ⟨#[c]⟩
theorem vi_str {tg e : Expr} {t : VT} (h : VE X E 0 e t) : VI X E tg e (fun env Q => t env fun d => match d with | .str x => Q (signs x) | _ => False) :=
  PIimp (pi_str h) fun σ H Q ⟨F, b, env, ex, Qd, R, q, k⟩ => ⟨F, b, env, ex, _, R, q, fun d v H1 F1 as hd r => by
    obtain ⟨rfl, p⟩ := r.ow
    cases d with
    | str z =>
      simp only [Rp] at p
      refine ⟨z, p, k _ _ _ _ hd r.unit ⟨fun i H s hi => by show i < z.cps.size; simpa [signs] using hi, fun i H s hi => by show z.cps.size ≤ i; simpa [signs] using hi, fun i H x H' d s e y => ?_⟩⟩
      obtain ⟨rfl, c, e1, rfl⟩ := y
      unfold signs at e
      rw [List.getElem?_map, Array.getElem?_toList, e1] at e
      cases e
      exact ⟨Sub.refl _, by simp only [Rp]⟩
    | _ => exact hd.elim⟩
/-! ### for -/
def goF (g : VG) (t : VST) (Vd : VEnds) : List D → Env → Prop
  | [], env => Vd.nx env
  | d :: r, env => g d env fun e2 => t { Vd with nx := goF g t Vd r, ct := goF g t Vd r, bk := Vd.nx } e2
def vFor (vi : VTI) (g : VG) (t : VST) : VST := fun Vd env => vi env fun ds => goF g t Vd ds env
theorem vs_for {tg iter : Expr} {body : List Stmt} {vi : VTI} {g : VG} {t : VST} {is : List Nat} {pos : Pos} (hi : VI X E tg iter vi) (hg : VTg X E is tg g) (hb : VSs X E lv body t) (hp : PassesOwn (model X.prog X.w) X.A X.env X.xe) (hc : X.calm = true := by rfl)
    (hs : ∀ x, foldedSetIterable iter X.env x = pure x := by intro _; rfl) : VS X E lv (.For tg iter body [] pos) (vFor vi g t) :=
  PSimp (ps_for hp hc hi hg hb hs) fun Dn σ H ⟨F, b, env, Vd, R, h, k1, k2, k3, k4⟩ => ⟨F, b, env, [], _, R, h, fun ds J H1 F1 hd r ok => by
    refine ⟨fun i m σ H => m = ds.length - i ∧ i ≤ ds.length ∧ ∃ F2 b2 env2, RepS X.K E σ H F2 b2 env2 [] ∧ Sub F1 F2 ∧ goF g t Vd (ds.drop i) env2, ⟨ds.length, rfl, Nat.zero_le _, F1, b, env, R.res r, Sub.refl _, hd⟩, ?_⟩
    rintro i m σ2 H2 ⟨rfl, hi, F2, b2, env2, R2, s2, go⟩
    by_cases hlt : i < ds.length
    · refine .inr ⟨ok.go i H2 (s2.trans R2.le) hlt, fun σ' H' => i + 1 ≤ ds.length ∧ ∃ F2 b2 env2, RepS X.K E σ' H' F2 b2 env2 [] ∧ Sub F1 F2 ∧ goF g t Vd (ds.drop (i + 1)) env2, fun σ' H' n => ⟨ds.length - (i + 1), by omega, rfl, n.1, n.2⟩, fun x H' y => ?_⟩
      have ed : ds[i]? = some ds[i] := List.getElem?_eq_getElem hlt
      obtain ⟨sH, rx⟩ := ok.yld i H2 x H' ds[i] (s2.trans R2.le) ed y
      rw [List.drop_eq_getElem_cons hlt] at go
      have R3 := R2.grow sH
      have sF : Sub F2 (nwR F2 H2 H') := nwR.sub R2.le
      refine ⟨nwR F2 H2 H', b2, env2, [], ds[i], _, R3, rx.mono (nwR.mono s2 R2.le), go, fun env3 σ3 q3 R3 _ _ => ?_⟩
      refine ⟨nwR F2 H2 H', b2, env3, _, R3, q3, fun σ4 H4 F4 b4 e4 n4 s4 R4 => ?_, fun σ4 H4 F4 b4 e4 n4 s4 R4 => ?_, fun σ4 H4 F4 b4 e4 n4 s4 R4 => ?_, k4⟩
      · exact ⟨hlt, F4, b4, e4, R4, (s2.trans sF).trans s4, n4⟩
      · exact k1 σ4 H4 F4 b4 e4 n4 (r.fg.trans ((s2.trans sF).trans s4)) R4
      · exact ⟨hlt, F4, b4, e4, R4, (s2.trans sF).trans s4, n4⟩
    · have e : ds.drop i = [] := List.drop_eq_nil_of_le (by omega)
      rw [e] at go
      exact .inl ⟨ok.stop i H2 (s2.trans R2.le) (by omega), k1 σ2 H2 F2 b2 env2 go (r.fg.trans s2) R2⟩⟩
/-! ### while -/
def vWhile (c : VTT) (t : VST) : VST := fun Vd env => ∃ W : Nat → Env → Prop, (∃ m, W m env) ∧ ∀ m env, W m env → c env fun k => match k with
  | true => t { Vd with nx := fun e => ∃ m', m' < m ∧ W m' e, ct := fun e => ∃ m', m' < m ∧ W m' e, bk := Vd.nx } env
  | false => Vd.nx env
theorem vs_while {c : Expr} {body : List Stmt} {tc : VTT} {t : VST} {pos : Pos} (hc : VTs X E c tc) (hb : VSs X E lv body t) (hp : PassesOwn (model X.prog X.w) X.A X.env X.xe) : VS X E lv (.While c body [] pos) (vWhile tc t) :=
  PSimp (ps_while hp hc hb) fun Dn σ H ⟨F, b, env, Vd, R, ⟨W, ⟨m0, w0⟩, turn⟩, k1, k2, k3, k4⟩ => by
    refine ⟨fun m σ H => ∃ F2 b2 env2, RepS X.K E σ H F2 b2 env2 [] ∧ Sub F F2 ∧ W m env2, ⟨m0, F, b, env, R, Sub.refl _, w0⟩, ?_⟩
    rintro m σ2 H2 ⟨F2, b2, env2, R2, s2, w2⟩
    refine ⟨F2, b2, env2, [], _, R2, turn m env2 w2, fun k H3 F3 hk r => ?_⟩
    have R3 := R2.res r
    cases k with
    | true =>
      refine ⟨fun σ' H' => ∃ m', m' < m ∧ ∃ F2 b2 env2, RepS X.K E σ' H' F2 b2 env2 [] ∧ Sub F F2 ∧ W m' env2, fun σ' H' q => q, ?_⟩
      refine ⟨F3, b2, env2, _, R3, hk, fun σ4 H4 F4 b4 e4 n4 s4 R4 => ?_, fun σ4 H4 F4 b4 e4 n4 s4 R4 => ?_, fun σ4 H4 F4 b4 e4 n4 s4 R4 => ?_, k4⟩
      · obtain ⟨m', hm, w'⟩ := n4
        exact ⟨m', hm, F4, b4, e4, R4, s2.trans (r.fg.trans s4), w'⟩
      · exact k1 σ4 H4 F4 b4 e4 n4 (s2.trans (r.fg.trans s4)) R4
      · obtain ⟨m', hm, w'⟩ := n4
        exact ⟨m', hm, F4, b4, e4, R4, s2.trans (r.fg.trans s4), w'⟩
    | false => exact k1 σ2 H3 F3 b2 env2 hk (s2.trans r.fg) R3
/-! ### comprehensions -/
def wipeE (env : Env) : List Nat → Env
  | [] => env
  | v :: vs => (wipeE env vs).set v .un
def goC (g : VG) (tt : VTT) (te : VT) (Q : List D → Prop) (env : Env) : List D → List D → Prop
  | [], acc => acc.length ≤ sizeLine ∧ Q acc
  | d :: r, acc => g d env fun e2 => tt e2 fun k => match k with
    | true => te e2 fun y => acc.length < sizeLine ∧ goC g tt te Q env r (acc ++ [y])
    | false => goC g tt te Q env r acc
def vLc (vi : VTI) (g : VG) (tt : VTT) (te : VT) (own : List Nat) : VT := fun env Q => vi env fun ds => goC g tt te (fun ys => Q (.lst ys)) (wipeE env own) ds []
theorem RepS.wipe {K : Fg} {σ : L2.St} {H F : Hp} {b : Option Addr} {env : Env} {ex : List Addr} : ∀ {own : List Nat}, RepS K E σ H F b env ex → RepS K E (L2.wipe σ own) H F b (wipeE env own) ex
  | [], R => R
  | v :: vs, R => by
    unfold L2.wipe wipeE
    exact RepS.store (as := []) (H' := H) (F' := F) (b' := b) (RepS.wipe (own := vs) R) rfl R.exn
theorem wipe_get {σ : L2.St} {j : Nat} : ∀ {own : List Nat}, (j ∈ own → (L2.wipe σ own)[j]? = if j < σ.length then some none else none) ∧ (j ∉ own → (L2.wipe σ own)[j]? = σ[j]?)
  | [] => ⟨fun m => absurd m List.not_mem_nil, fun _ => rfl⟩
  | v :: vs => by
    have ih := wipe_get (σ := σ) (j := j) (own := vs)
    unfold L2.wipe
    refine ⟨fun m => ?_, fun n => ?_⟩
    · by_cases e : v = j
      · subst e
        rw [List.getElem?_set_self']
        split
        · rename_i h
          by_cases mv : v ∈ vs
          · rw [ih.1 mv, if_pos h]; rfl
          · rw [ih.2 mv, List.getElem?_eq_getElem h]; rfl
        · rename_i h
          by_cases mv : v ∈ vs
          · rw [ih.1 mv, if_neg h]; rfl
          · rw [ih.2 mv, List.getElem?_eq_none (by omega)]; rfl
      · rw [List.getElem?_set_ne e]
        exact ih.1 ((List.mem_cons.mp m).resolve_left fun z => e z.symm)
    · rw [List.getElem?_set_ne fun e => n (by rw [e]; exact List.mem_cons_self)]
      exact ih.2 fun m => n (List.mem_cons_of_mem _ m)
theorem wipe_same {σ σ' : L2.St} {own is : List Nat} (hl : σ'.length = σ.length) (h : ∀ j, j ∉ is → σ'[j]? = σ[j]?) (m : ∀ j ∈ is, j ∈ own) : L2.wipe σ' own = L2.wipe σ own := by
  apply List.ext_getElem?
  intro j
  by_cases q : j ∈ own
  · rw [wipe_get.1 q, wipe_get.1 q, hl]
  · rw [wipe_get.2 q, wipe_get.2 q]
    exact h j fun z => q (m j z)
theorem wipe_idem {σ : L2.St} {own : List Nat} : L2.wipe (L2.wipe σ own) own = L2.wipe σ own := by
  apply List.ext_getElem?
  intro j
  by_cases q : j ∈ own
  · rw [wipe_get.1 q, wipe_get.1 q, wipe_length]
  · rw [wipe_get.2 q]
def VTsL (X : Cx) (E : En) (ifs : List Expr) (t : VTT) : Prop := PTs X ifs (lT X.K E t)
def vYes : VTT := fun _ Q => Q true
theorem vts_nil : VTsL X E [] vYes := ⟨fun pins s σ H Q I ⟨F, b, env, ex, Qd, R, q, k⟩ => pts_nil.run pins s σ H Q I (k true H F q (Res.nil R.le R.hbb))⟩
theorem vts_one {c : Expr} {t : VTT} (h : VTs X E c t) : VTsL X E [c] t := pts_one h
theorem lc_read {K : Fg} {n : Nat} {vi : VTI} {g : VG} {tt : VTT} {te : VT} {own is : List Nat} (hs : ∀ j ∈ is, j ∈ own) : ∀ σ H Q, lE K E (n + 1) (vLc vi g tt te own) σ H Q → tLc (lI K E vi) (lG K E is g) (lT K E tt) (lE K E n te) own σ H Q := by
  rintro σ H0 Q ⟨F0, b, env, ex, Qd, R0, q, k⟩
  refine ⟨F0, b, env, ex, _, R0, q, fun ds J H1 F1 hd r ok D hD => ?_⟩
  have R1 := R0.res r
  have hold := R1.hold (o := .lst []) hD
  refine ⟨fun i m H => m = ds.length - i ∧ i ≤ ds.length ∧ ∃ F2 as acc accV, RepS K E σ H F2 b env (D :: (as ++ ex)) ∧ Sub F1 F2 ∧ H D = some (.lst accV) ∧ OwnL (Own K H F2 n) acc accV as ∧
    goC g tt te (fun ys => Qd (.lst ys)) (wipeE env own) (ds.drop i) acc ∧ SameB b H1 H ∧ (∀ a o, F2 a = some o → F1 a = some o ∨ H1 a = none) ∧ ∀ a ∈ as, H1 a = none,
    ⟨ds.length, rfl, Nat.zero_le _, F1, [], [], [], hold, Sub.refl _, upd_same, ⟨rfl, rfl⟩, hd, (Sub.new hD).sameB, fun a o e => .inl e, fun a m => by cases m⟩, ?_⟩
  rintro i m H ⟨rfl, hi, F2, as, acc, accV, R2, s2, hDl, ow, go, sb2, gn2, mn2⟩
  by_cases hlt : i < ds.length
  · refine .inr ⟨ok.go i H (s2.trans R2.le) hlt, fun H => i + 1 ≤ ds.length ∧ ∃ F2 as acc accV, RepS K E σ H F2 b env (D :: (as ++ ex)) ∧ Sub F1 F2 ∧ H D = some (.lst accV) ∧ OwnL (Own K H F2 n) acc accV as ∧
      goC g tt te (fun ys => Qd (.lst ys)) (wipeE env own) (ds.drop (i + 1)) acc ∧ SameB b H1 H ∧ (∀ a o, F2 a = some o → F1 a = some o ∨ H1 a = none) ∧ ∀ a ∈ as, H1 a = none,
      fun H' w => ⟨ds.length - (i + 1), by omega, rfl, w.1, w.2⟩, fun x H' y => ?_⟩
    have ed : ds[i]? = some ds[i] := List.getElem?_eq_getElem hlt
    obtain ⟨sH, rx⟩ := ok.yld i H x H' ds[i] (s2.trans R2.le) ed y
    rw [List.drop_eq_getElem_cons hlt] at go
    have R3 := R2.grow sH
    have sF : Sub F2 (nwR F2 H H') := nwR.sub R2.le
    have mD := R2.exm D List.mem_cons_self
    have gn3 : ∀ a o, nwR F2 H H' a = some o → F1 a = some o ∨ H1 a = none := fun a o e => by
      rcases nwR.or a o e with z | z
      · exact gn2 a o z
      · refine .inr ?_
        cases w : H1 a with
        | none => rfl
        | some u =>
          by_cases nb : b = some a
          · obtain ⟨xs, hx, _⟩ := R2.hbb a nb
            rw [z] at hx; cases hx
          · rw [sb2 a u nb w] at z; cases z
    refine ⟨nwR F2 H H', b, wipeE env own, D :: (as ++ ex), ds[i], _, R3.wipe, rx.mono (nwR.mono s2 R2.le), go, fun env3 σ3 q3 R4 hj hl => ?_⟩
    have ew : L2.wipe σ3 own = L2.wipe σ own := (wipe_same hl hj hs).trans wipe_idem
    refine ⟨ew, nwR F2 H H', b, env3, D :: (as ++ ex), _, R4, q3, fun c H4 F4 hk r4 => ?_⟩
    have R5 := R3.res r4
    have R5' := R4.res r4
    have hD4 : H4 D = some (.lst accV) := r4.sb D _ mD.nb (sH D _ hDl)
    have asK : ∀ a ∈ as, ∃ o, H a = some o ∧ b ≠ some a ∧ a ≠ D := fun a m => by
      have ma := R2.exm a (List.mem_cons_of_mem _ (List.mem_append_left _ m))
      obtain ⟨o, ho⟩ := ma.h
      exact ⟨o, ho, ma.nb, fun e => (List.nodup_cons.mp R2.exn).1 (by rw [← e]; exact List.mem_append_left _ m)⟩
    cases c with
    | true =>
      refine ⟨F4, b, env3, D :: (as ++ ex), _, R5', hk, fun d' v' H5 F5 bs hd' r5 => ?_⟩
      have hD5 : H5 D = some (.lst accV) := r5.sb D _ mD.nb hD4
      refine ⟨accV, hD5, by rw [ow.length]; exact hd'.1, hlt, F5, as ++ bs, acc ++ [d'], accV ++ [v'], ?_, ?_, upd_same, ?_, hd'.2, ?_, ?_, ?_⟩
      · have R6 := (R5.res r5).mut (p := D) (o := .lst (accV ++ [v'])) (List.mem_append_right _ List.mem_cons_self)
        have pm : List.Perm (bs ++ (D :: (as ++ ex))) (D :: ((as ++ bs) ++ ex)) := by
          refine List.perm_middle.trans (List.Perm.cons D ?_)
          rw [List.append_assoc]
          exact (List.perm_append_comm_assoc bs as ex)
        exact R6.drop (fun a m => pm.mem_iff.mpr m) (pm.nodup_iff.mp R6.exn)
      · exact ((s2.trans sF).trans r4.fg).trans r5.fg
      · refine OwnL.append (ow.imp fun d v cs mc o => ?_) (OwnL.one (Own.keep (Sub.refl _) r5.ow fun a m => upd_ne fun e => ?_))
        · refine Own.keep ((sF.trans r4.fg).trans r5.fg) o fun a m => ?_
          obtain ⟨u, hu, nb, ne⟩ := asK a (mc a m)
          rw [upd_ne ne, hu]
          exact r5.sb a u nb (r4.sb a u nb (sH a u hu))
        · have := (r5.mn a m).2.1
          rw [e, hD4] at this
          cases this
      · intro a u nb h1
        have ne : a ≠ D := fun e => by rw [e, hD] at h1; cases h1
        rw [upd_ne ne]
        exact r5.sb a u nb (r4.sb a u nb (sH a u (sb2 a u nb h1)))
      · intro a u e
        have up : ∀ a, H4 a = none → H1 a = none := fun a z => by
          cases w : H1 a with
          | none => rfl
          | some u =>
            by_cases nb : b = some a
            · obtain ⟨xs, hx, _⟩ := R5.hbb a nb
              rw [z] at hx; cases hx
            · rw [r4.sb a u nb (sH a u (sb2 a u nb w))] at z; cases z
        have up' : ∀ a, H' a = none → H1 a = none := fun a z => by
          cases w : H1 a with
          | none => rfl
          | some u =>
            by_cases nb : b = some a
            · obtain ⟨xs, hx, _⟩ := R3.hbb a nb
              rw [z] at hx; cases hx
            · rw [sH a u (sb2 a u nb w)] at z; cases z
        rcases r5.gn a u e with z | z
        · rcases r4.gn a u z with z | z
          · exact gn3 a u z
          · exact .inr (up' a z)
        · exact .inr (up a z)
      · intro a m
        rcases List.mem_append.mp m with m | m
        · exact mn2 a m
        · have z := (r5.mn a m).2.1
          cases w : H1 a with
          | none => rfl
          | some u =>
            by_cases nb : b = some a
            · obtain ⟨xs, hx, _⟩ := R5.hbb a nb
              rw [z] at hx; cases hx
            · rw [r4.sb a u nb (sH a u (sb2 a u nb w))] at z; cases z
    | false =>
      refine ⟨hlt, F4, as, acc, accV, R5, (s2.trans sF).trans r4.fg, hD4, ow.imp fun d v cs mc o => ?_, hk, ?_, ?_, mn2⟩
      · refine Own.keep (sF.trans r4.fg) o fun a m => ?_
        obtain ⟨u, hu, nb, ne⟩ := asK a (mc a m)
        rw [hu]
        exact r4.sb a u nb (sH a u hu)
      · exact fun a u nb h1 => r4.sb a u nb (sH a u (sb2 a u nb h1))
      · intro a u e
        rcases r4.gn a u e with z | z
        · exact gn3 a u z
        · refine .inr ?_
          cases w : H1 a with
          | none => rfl
          | some u =>
            by_cases nb : b = some a
            · obtain ⟨xs, hx, _⟩ := R3.hbb a nb
              rw [z] at hx; cases hx
            · rw [sH a u (sb2 a u nb w)] at z; cases z
  · have e : ds.drop i = [] := List.drop_eq_nil_of_le (by omega)
    rw [e] at go
    refine .inl ⟨ok.stop i H (s2.trans R2.le) (by omega), k _ _ H F2 (D :: as) go.2 ?_⟩
    have nd : (D :: as).Nodup := by
      have := R2.exn
      rw [← List.cons_append] at this
      exact (List.nodup_append.mp this).1
    refine r.trans ⟨sb2, R2.hbb, s2, R2.le, gn2, ⟨D, accV, acc, as, rfl, rfl, hDl, rfl, ow⟩, nd, fun a m => ?_⟩
    have ma := R2.exm a (by rw [← List.cons_append]; exact List.mem_append_left _ m)
    refine ⟨ma.f, ?_, ma.h⟩
    rcases List.mem_cons.mp m with z | z
    · rw [z]; exact hD
    · exact mn2 a z
theorem goF_ind {g : VG} {t : VST} {Vd : VEnds} (P : List D → Env → Prop) (hs : ∀ d r env (nx : Env → Prop), P (d :: r) env → (∀ env', P r env' → nx env') → g d env fun e2 => t { Vd with nx := nx, ct := nx, bk := Vd.nx } e2) (h0 : ∀ env, P [] env → Vd.nx env) :
    ∀ ds env, P ds env → goF g t Vd ds env
  | [], env, h => h0 env h
  | d :: r, env, h => hs d r env _ h fun env' h' => goF_ind P hs h0 r env' h'
theorem goC_ind {g : VG} {tt : VTT} {te : VT} {Q : List D → Prop} {env : Env} (P : List D → List D → Prop) (hs : ∀ d r acc (nx : List D → Prop), P (d :: r) acc → (∀ acc', P r acc' → nx acc') → g d env fun e2 => tt e2 fun k => match k with
    | true => te e2 fun y => acc.length < sizeLine ∧ nx (acc ++ [y])
    | false => nx acc) (h0 : ∀ acc, P [] acc → acc.length ≤ sizeLine ∧ Q acc) : ∀ ds acc, P ds acc → goC g tt te Q env ds acc
  | [], acc, h => h0 acc h
  | d :: r, acc, h => hs d r acc _ h fun acc' h' => goC_ind P hs h0 r acc' h'
inductive All2 {α β : Type} (R : α → β → Prop) : List α → List β → Prop
  | nil : All2 R [] []
  | cons {a b as bs} : R a b → All2 R as bs → All2 R (a :: as) (b :: bs)
theorem All2.length {α β : Type} {R : α → β → Prop} : ∀ {as : List α} {bs : List β}, All2 R as bs → bs.length = as.length
  | _, _, .nil => rfl
  | _, _, .cons _ h => congrArg Nat.succ h.length
theorem All2.eq_map {α β : Type} {f : α → β} : ∀ {as : List α} {bs : List β}, All2 (fun a b => b = f a) as bs → bs = as.map f
  | _, _, .nil => rfl
  | _, _, .cons e h => by rw [List.map_cons, e, h.eq_map]
theorem All2.mem {α β : Type} {R : α → β → Prop} {b : β} : ∀ {as : List α} {bs : List β}, All2 R as bs → b ∈ bs → ∃ a ∈ as, R a b
  | _, _, .nil, m => by cases m
  | _, _, .cons e h, m => by
    rcases List.mem_cons.mp m with rfl | m
    · exact ⟨_, List.mem_cons_self, e⟩
    · obtain ⟨a, ma, r⟩ := h.mem m
      exact ⟨a, List.mem_cons_of_mem _ ma, r⟩
/-- a comprehension without a test, the elements one by one by f -/
theorem goC_map {g : VG} {te : VT} {Q : List D → Prop} {env : Env} (f : D → D → Prop) : ∀ (ds acc : List D), acc.length + ds.length ≤ sizeLine → (∀ d ∈ ds, ∀ (K : D → Prop), (∀ y, f d y → K y) → g d env fun e2 => te e2 K) →
    (∀ ys, All2 f ds ys → Q (acc ++ ys)) → goC g vYes te Q env ds acc
  | [], acc, hl, _, h => by
    refine ⟨by simpa using hl, ?_⟩
    have := h [] .nil
    rwa [List.append_nil] at this
  | d :: r, acc, hl, hg, h => by
    refine hg d List.mem_cons_self _ fun y hy => ⟨by simp at hl; omega, goC_map f r (acc ++ [y]) (by simp at hl ⊢; omega) (fun d m => hg d (List.mem_cons_of_mem _ m)) fun ys hys => ?_⟩
    have := h (y :: ys) (.cons hy hys)
    rwa [List.append_assoc]
end
end N
end
section
set_option Elab.async false
set_option linter.all false
set_option autoImplicit false
set_option maxRecDepth 100000
/-! N6: comprehensions as rules, stores into one's own lists, calls of built-ins. -/
namespace N
open PySem PySem.Spec PyProof.Rows L2
section
variable {X : Cx} {E : En} {lv : Nat}
abbrev BlkP (X : Cx) (scope : Scope) (P : Cx → Prop) : Prop := ∀ (s : Shared) (H : Hp) (C : Addr) (cl : List (Str × Addr)) (fp : List Addr), P (X.blk s H scope (compEnvC scope cl C X.env) fp)
theorem ve_lc {n : Nat} {own : List (Str × Nat)} {elt tg iter : Expr} {ifs : List Expr} {scope : Scope} {pos : Pos} {vi : VTI} {g : VG} {tt : VTT} {te : VT} {is : List Nat} (hi : VI X E tg iter vi) (ok : BlkOk X.N X.env.scope scope own) (hg : BlkP X scope fun X => VTg X E is tg g) (ht : BlkP X scope fun X => VTsL X E ifs tt) (he : BlkP X scope fun X => VE X E n elt te)
    (hN : X.N.Nodup := by exact nd) (hc : X.calm = true := by rfl) (hm : ∀ j ∈ is, j ∈ own.map (·.2) := by decide) (hs : ∀ x, foldedSetIterable iter X.env x = pure x := by intro _; rfl) : VE X E (n + 1) (.ListComp elt [⟨tg, iter, ifs, 0⟩] scope pos) (vLc vi g tt te (own.map (·.2))) :=
  PEimp (pe_lc (g := lG X.K E is g) (tt := lT X.K E tt) (te := lE X.K E n te) hc hN hi ok hg ht he hs) (lc_read hm)
theorem vs_setLc (i : Nat) {n : Nat} {own : List (Str × Nat)} {y : Str} {py : Pos} {elt tg iter : Expr} {ifs : List Expr} {scope : Scope} {pos spos : Pos} {vi : VTI} {g : VG} {tt : VTT} {te : VT} {is : List Nat} (hi : VI X E tg iter vi) (ok : BlkOk X.N X.env.scope scope own) (hg : BlkP X scope fun X => VTg X E is tg g) (ht : BlkP X scope fun X => VTsL X E ifs tt) (he : BlkP X scope fun X => VE X E n elt te)
    (hsw : swapsWith (.ListComp elt [⟨tg, iter, ifs, 0⟩] scope pos) (some (.Name y py)) spos.line X.env = pure true := by exact sw_true rfl rfl rfl (by decide +kernel)) (hN : X.N.Nodup := by exact nd) (hy : X.N[i]? = some y := by rfl) (hyl : X.env.scope.names.lookup y = some .local := by rfl) (hc : X.calm = true := by rfl) (hm : ∀ j ∈ is, j ∈ own.map (·.2) := by decide) (hs : ∀ x, foldedSetIterable iter X.env x = pure x := by intro _; rfl) :
    VS X E lv (.Assign [.Name y py] (.ListComp elt [⟨tg, iter, ifs, 0⟩] scope pos) spos) (vSet i (n + 1) (vLc vi g tt te (own.map (·.2)))) :=
  PSimp (ps_setLc (g := lG X.K E is g) (tt := lT X.K E tt) (te := lE X.K E n te) hc hN hy hyl hsw hi ok hg ht he hs) fun Dn σ H ⟨F, b, env, Vd, R, h, k1, k2, k3, k4⟩ => lc_read hm σ H _ ⟨F, b, env, [], _, R, h, fun d v H1 F1 as hd r => by
    refine k1 _ _ F1 b _ hd r.fg (RepS.store (as := as) (H' := H1) (F' := F1) (b' := b) (R.res r) ?_ List.nodup_nil)
    exact ⟨v, rfl, r.ow⟩⟩
/-- what is our own may be read as anything -/
theorem Res.frz {K : Fg} {b : Option Addr} {BI : List V → Prop} {H F H' G : Hp} {n : Nat} {d : D} {v : V} {as : List Addr} (r : Res K b BI H F H' G n d v as) : Res K b BI H F H' (Fz G H' as) 0 d v [] := by
  have ga : ∀ a ∈ as, G a = none := fun a m => (r.mn a m).1
  refine ⟨r.sb, r.hb, r.fg.trans (Fz.sub ga), Fz.le r.le, fun a o e => ?_, Own.zero (r.ow.frz ga), List.nodup_nil, fun a m => by cases m⟩
  unfold Fz at e
  by_cases m : a ∈ as
  · exact .inr (r.mn a m).2.1
  · rw [if_neg m] at e
    exact r.gn a o e
theorem ve_frz {n : Nat} {e : Expr} {t : VT} (h : VE X E n e t) : VE X E 0 e t := PEimp h fun σ H Q ⟨F, b, env, ex, Qd, R, q, k⟩ => ⟨F, b, env, ex, Qd, R, q, fun d v H' F' as hd r => k d v H' _ [] hd r.frz⟩

/-! ### x.append(e), x[i] = e of a list of one's own -/
theorem RepS.take {K : Fg} {σ : L2.St} {H F : Hp} {b : Option Addr} {env : Env} {ex : List Addr} {i n : Nat} {d : D} (R : RepS K E σ H F b env ex) (h : env[i]? = some (.ow n d)) :
    ∃ v as, σ[i]? = some (some v) ∧ Own K H F n d v as ∧ as.Nodup ∧ (∀ a ∈ as, Mine E H F b a) ∧ (∀ a ∈ as, a ∉ ex) ∧ RepS K E σ H F b (env.set i .un) (as ++ ex) := by
  obtain ⟨tag, q, hx⟩ := R.sl
  have hi : i < env.length := (List.getElem?_eq_some_iff.mp h).1
  have hi2 : i < σ.length := by rw [← R.len]; exact hi
  obtain ⟨as, ⟨v, ev, ho⟩, nd, ha⟩ := q i _ σ[i] h (List.getElem?_eq_getElem hi2)
  have dis : ∀ a ∈ as, a ∉ ex := fun a m z => by
    have := hx a z
    rw [(ha a m).1] at this
    cases this
  refine ⟨v, as, by rw [List.getElem?_eq_getElem hi2, ev], ho, nd, fun a m => (ha a m).2, dis, R.le, R.f0, R.nw, R.sb, R.bg, R.bn, R.b0, by rw [List.length_set]; exact R.len, ⟨fun a => if tag a = some i then none else tag a, fun j s x e1 e2 => ?_, fun a m => ?_⟩,
    List.nodup_append.mpr ⟨nd, R.exn, fun a m c mc e => dis a m (by rw [e]; exact mc)⟩, fun a m => ?_⟩
  · by_cases z : i = j
    · subst z
      rw [List.getElem?_set_self hi] at e1
      cases e1
      exact ⟨[], rfl, List.nodup_nil, fun a m => by cases m⟩
    · rw [List.getElem?_set_ne z] at e1
      obtain ⟨bs, h1, h2, h3⟩ := q j s x e1 e2
      refine ⟨bs, h1, h2, fun a m => ⟨?_, (h3 a m).2⟩⟩
      dsimp only
      rw [if_neg (by rw [(h3 a m).1]; intro w; exact z (Option.some.inj w).symm)]
      exact (h3 a m).1
  · dsimp only
    rcases List.mem_append.mp m with m | m
    · rw [if_pos (ha a m).1]
    · rw [hx a m]
      split <;> rfl
  · rcases List.mem_append.mp m with m | m
    · exact (ha a m).2
    · exact R.exm a m
theorem Own.one {K : Fg} {H F : Hp} {d : D} {v : V} {as : List Addr} (h : Own K H F 1 d v as) : ∃ a vs ds, v = .ref a ∧ d = .lst ds ∧ H a = some (.lst vs) ∧ as = [a] ∧ RpAll K F ds vs := by
  obtain ⟨a, vs, ds, bs, e1, e2, e3, e4, h⟩ := h
  obtain ⟨rfl, r⟩ := h.toRp
  exact ⟨a, vs, ds, e1, e2, e3, e4, r⟩
/-- return x, x a list of our own -/
def vRetOwn (lv i : Nat) : VST := fun Vd env => match env[i]? with
  | some (.ow n d) => n = lv ∧ Vd.rt d (env.set i .un)
  | _ => False
theorem vs_retOwn (i : Nat) {x : Str} {pos pos' : Pos} (hN : X.N[i]? = some x := by rfl) (hv : Vis X.env.scope x := by first | exact Or.inl rfl | exact Or.inr (Or.inl rfl) | exact Or.inr (Or.inr rfl)) (hd : (x == ("__debug__" : Str)) = false := by decide)
    (hcd : (x == ("__classdict__" : Str)) = false := by decide) : VS X E lv (.Return (some (.Name x pos)) pos') (vRetOwn lv i) :=
  PSimp (ps_ret (pe_var hN hv hd hcd)) fun Dn σ H ⟨F, b, env, Vd, R, h, k1, k2, k3, k4⟩ => by
    unfold vRetOwn at h
    split at h
    · rename_i n d e
      obtain ⟨rfl, hq⟩ := h
      obtain ⟨v, as, h1, ho, nd, hm, dis, R1⟩ := R.take e
      rw [List.append_nil] at R1
      exact ⟨v, h1, k4 d v σ H F b _ as hq R1 ho⟩
    · exact h.elim
/-- x = begun(..): a new bag -/
def bagI (BD : List D → Prop) : List V → Prop := fun vs => ∃ ds, BD ds ∧ ∀ K F, RpAll K F ds vs
def noBg : Env → Prop
  | [] => True
  | .bg :: _ => False
  | _ :: r => noBg r
theorem noBg_get : ∀ {env : Env} {i : Nat}, noBg env → env[i]? ≠ some .bg
  | [], i, _ => by simp
  | s :: r, 0, h => by
    intro e
    simp at e
    subst e
    exact h
  | s :: r, i + 1, h => by
    rw [List.getElem?_cons_succ]
    cases s with
    | bg => exact h.elim
    | un => exact noBg_get (env := r) h
    | ow n d => exact noBg_get (env := r) h
/-- nothing but numbers, truths, texts -/
def scalD : D → Prop
  | .int _ => True
  | .bl _ => True
  | .str _ => True
  | .non => True
  | _ => False
theorem RpAll.scal {K K' : Fg} {F F' : Hp} : ∀ {ds : List D} {vs : List V}, (∀ d ∈ ds, scalD d) → RpAll K F ds vs → RpAll K' F' ds vs
  | [], _, _, h => by simpa only [RpAll] using h
  | d :: ds, _, hs, h => by
    simp only [RpAll] at h ⊢
    obtain ⟨v, r, e, h1, h2⟩ := h
    refine ⟨v, r, e, ?_, RpAll.scal (fun d m => hs d (List.mem_cons_of_mem _ m)) h2⟩
    have := hs d List.mem_cons_self
    cases d <;> simp only [scalD] at this <;> simpa only [Rp] using h1
def vSetBag (BD : List D → Prop) (i : Nat) (t : VT) : VST := fun Vd env => t env fun d => match d with
  | .lst ds => BD ds ∧ (∀ d ∈ ds, scalD d) ∧ noBg (env.set i .un) ∧ Vd.nx (env.set i .bg)
  | _ => False
theorem vs_setBag {BD : List D → Prop} (i : Nat) {x : Str} {e : Expr} {t : VT} {pos pos' : Pos} (he : VE X E 1 e t) (hBI : E.BI = bagI BD := by rfl) (hN : X.N.Nodup := by exact nd) (hi : X.N[i]? = some x := by rfl) (hx : Loc X.env.scope x := by first | exact .inl rfl | exact .inr rfl) (hs : swapsWith e (some (.Name x pos')) pos.line X.env = pure false := by rfl)
    (hf : X.fn x = true ∨ X.env.scope.names.lookup x = some .local := by first | exact .inl rfl | exact .inr rfl) : VS X E lv (.Assign [.Name x pos'] e pos) (vSetBag BD i t) :=
  PSimp (ps_set hN hi hx he hs hf) fun Dn σ H ⟨F, b, env, Vd, R, h, k1, k2, k3, k4⟩ => ⟨F, b, env, [], _, R, h, fun d v H1 F1 as hd r => by
    have R1 := R.res r
    obtain ⟨a, vs, ds, rfl, rfl, h1, rfl, pa⟩ := Own.one r.ow
    obtain ⟨hB, hsc, hno, hn⟩ := hd
    rw [List.append_nil] at R1
    have ma := R1.exm a (List.mem_singleton_self _)
    have R2 : RepS X.K E (σ.set i (some (.ref a))) H1 F1 b (env.set i .un) [a] := RepS.store (as := []) (H' := H1) (F' := F1) (b' := b) R1 rfl R1.exn
    refine k1 _ _ F1 (some a) _ hn r.fg ⟨R2.le, R2.f0, R2.nw, R2.sb, fun c e => ?_, fun c e => by cases e; exact .inr ma.h0, R2.b0, by rw [List.length_set, List.length_set]; exact R.len, ?_, List.nodup_nil, fun a m => by cases m⟩
    · rcases e with e | e
      · cases e
        exact ⟨ma.f, vs, h1, by rw [hBI]; exact ⟨ds, hB, fun K F => pa.scal hsc⟩⟩
      · exact R2.bg c (.inr e)
    · obtain ⟨tag, q, hx⟩ := R2.sl
      have ta : tag a = none := hx a (List.mem_singleton_self _)
      refine ⟨tag, fun j s y e1 e2 => ?_, fun a m => by cases m⟩
      by_cases z : i = j
      · subst z
        have g1 : i < env.length := by
          have := (List.getElem?_eq_some_iff.mp e1).1
          rwa [List.length_set] at this
        have g2 : i < σ.length := by rw [← R.len]; exact g1
        rw [List.getElem?_set_self g1] at e1
        rw [List.getElem?_set_self g2] at e2
        cases e1
        cases e2
        exact ⟨[], ⟨rfl, a, rfl, rfl⟩, List.nodup_nil, fun a m => by cases m⟩
      · have e1' : (env.set i .un)[j]? = some s := by
          rw [List.getElem?_set_ne z] at e1 ⊢
          exact e1
        obtain ⟨bs, g1, g2, g3⟩ := q j s y e1' e2
        refine ⟨bs, ?_, g2, fun c m => ⟨(g3 c m).1, (g3 c m).2.f, (g3 c m).2.h0, ?_, (g3 c m).2.h⟩⟩
        · cases s with
          | un => exact g1
          | bg => exact absurd e1' (noBg_get hno)
          | ow n d => exact g1
        · intro w
          cases w
          have := (g3 a m).1
          rw [ta] at this
          cases this⟩
def vAppend (i : Nat) (t : VT) : VST := fun Vd env => t env fun d => match env[i]? with
  | some (.ow 1 (.lst ds)) => ds.length < sizeLine ∧ Vd.nx (env.set i (.ow 1 (.lst (ds ++ [d]))))
  | _ => False
theorem Own.mk1 {K : Fg} {H F : Hp} {ds : List D} {vs : List V} {a : Addr} (h : H a = some (.lst vs)) (r : RpAll K F ds vs) : Own K H F 1 (.lst ds) (.ref a) [a] := ⟨a, vs, ds, [], rfl, rfl, h, rfl, OwnL.ofRp r⟩
/-- the list at slot i is changed -/
theorem RepS.put1 {K : Fg} {σ : L2.St} {H F : Hp} {b : Option Addr} {env : Env} {ex : List Addr} {i : Nat} {ds es : List D} {us : List V} (R : RepS K E σ H F b env ex) (h : env[i]? = some (.ow 1 (.lst ds))) (r : RpAll K F es us) :
    ∃ a vs, σ[i]? = some (some (.ref a)) ∧ H a = some (.lst vs) ∧ RpAll K F ds vs ∧ b ≠ some a ∧ RepS K E σ (upd H a (.lst us)) F b (env.set i (.ow 1 (.lst es))) ex := by
  obtain ⟨v, as, h1, ho, nd, hm, dis, R1⟩ := R.take h
  obtain ⟨a, vs, ds', rfl, e2, h2, rfl, r2⟩ := ho.one
  cases e2
  refine ⟨a, vs, h1, h2, r2, (hm a (List.mem_singleton_self _)).nb, ?_⟩
  have R2 := R1.mut (p := a) (o := .lst us) (List.mem_append_left _ (List.mem_singleton_self _))
  have R3 := RepS.store (i := i) (s := .ow 1 (.lst es)) (x := some (.ref a)) (as := [a]) (H' := H) (F' := F) (b' := b) R2 ⟨_, rfl, Own.mk1 upd_same r⟩ R.exn
  have e1 : σ.set i (some (.ref a)) = σ := by
    apply List.ext_getElem?
    intro j
    by_cases z : i = j
    · subst z
      rw [h1, List.getElem?_set_self (List.getElem?_eq_some_iff.mp h1).1]
    · rw [List.getElem?_set_ne z]
  rw [e1, List.set_set] at R3
  exact R3
/-- h by pe_bm PySem.F.plainAttrs_list PySem.F.slot_list_append PySem.F.type_list_append mt_append (pv i) (pa_cons he pa_nil) -/
theorem vs_append (i : Nat) {e : Expr} {t : VT} {pos : Pos} (h : PE X e (tBM X.K "list" rAppend (tVar i) (tCons (lE X.K E 0 t) tNil))) (hs : swapsWith e none pos.line X.env = pure false := by rfl) : VS X E lv (.Expr e pos) (vAppend i (fun env Q => (∃ ds, env[i]? = some (.ow 1 (.lst ds))) ∧ t env Q)) :=
  PSimp (ps_expr h hs) fun Dn σ H ⟨F, b, env, Vd, R, ⟨⟨ds, hsl⟩, h⟩, k1, k2, k3, k4⟩ => by
    obtain ⟨x, as, h1, ⟨v, rfl, ho⟩, nd, hm⟩ := R.slot hsl
    obtain ⟨a, vs, ds', rfl, e2, h2, rfl, r2⟩ := ho.one
    refine ⟨.ref a, h1, .inl ⟨rfl, _, .inl (.inl h2)⟩, F, b, env, [], _, R, h, fun d v H1 F1 as hd r => ?_⟩
    obtain ⟨rfl, p⟩ := r.ow
    rw [hsl] at hd
    have R1 := R.res r
    obtain ⟨a', vs', g1, g2, g3, g4, R2⟩ := R1.put1 (es := ds ++ [d]) (us := vs ++ [v]) hsl (by
      have := r2.mono r.fg
      cases e2
      exact this.append (by simp only [RpAll]; exact ⟨v, [], rfl, p, rfl⟩))
    have e3 : a' = a := by
      rw [h1] at g1
      cases g1
      rfl
    subst e3
    have e4 : vs' = vs := by
      have := r.sb a' _ (hm a' (List.mem_singleton_self _)).nb h2
      rw [g2] at this
      cases this
      rfl
    subst e4
    exact ⟨a', vs', v, rfl, rfl, g2, by rw [g3.length]; exact hd.1, k1 _ _ F1 b _ hd.2 r.fg R2⟩
/-- x[i] = e -/
def vStore (i : Nat) (t ti : VT) : VST := fun Vd env => (∃ ds, env[i]? = some (.ow 1 (.lst ds))) ∧ t env fun d => ti env fun k => match env[i]?, k with
  | some (.ow 1 (.lst ds)), .int k => ∃ j, ixN ds.length k = some j ∧ Vd.nx (env.set i (.ow 1 (.lst (ds.set j d))))
  | _, _ => False
theorem RpAll.setAt {K : Fg} {F : Hp} {d : D} {v : V} (h : Rp K F d v) : ∀ {ds : List D} {vs : List V} (j : Nat), RpAll K F ds vs → RpAll K F (ds.set j d) (vs.set j v)
  | [], _, j, r => by simp only [RpAll] at r; subst r; simp only [List.set_nil, RpAll]
  | x :: xs, _, 0, r => by
    simp only [RpAll] at r
    obtain ⟨u, w, rfl, h1, h2⟩ := r
    simp only [List.set_cons_zero, RpAll]
    exact ⟨v, w, rfl, h, h2⟩
  | x :: xs, _, j + 1, r => by
    simp only [RpAll] at r
    obtain ⟨u, w, rfl, h1, h2⟩ := r
    simp only [List.set_cons_succ, RpAll]
    exact ⟨u, _, rfl, h1, RpAll.setAt h j h2⟩
theorem vs_store (i : Nat) {x : Str} {e ix : Expr} {t ti : VT} {p1 p2 pos : Pos} (he : VE X E 0 e t) (hix : VE X E 0 ix ti) (hN : X.N[i]? = some x := by rfl) (hv : Vis X.env.scope x := by first | exact Or.inl rfl | exact Or.inr (Or.inl rfl) | exact Or.inr (Or.inr rfl)) (hd : (x == ("__debug__" : Str)) = false := by decide)
    (hcd : (x == ("__classdict__" : Str)) = false := by decide) (ha : ∀ v, assign (.Subscript (.Name x p1) ix p2) X.env v = (do
      let ov ← holding [v] (eval (.Name x p1) X.env)
      let iv ← holding [v, ov] (eval ix X.env)
      standAt p2
      holding [v, ov, iv] (setItem ov iv v)
      release [v, ov, iv] []) := by intro _; rfl) (hs : swapsWithSole [.Subscript (.Name x p1) ix p2] e pos.line X.env = pure false := by rfl) (hw : swappedStores [.Subscript (.Name x p1) ix p2] e X.env = pure none := by rfl)
    (h1 : (assignEach [.Subscript (.Name x p1) ix p2] X.env).map (·.2) = [assign (.Subscript (.Name x p1) ix p2) X.env] := by rfl) : VS X E lv (.Assign [.Subscript (.Name x p1) ix p2] e pos) (vStore i t ti) :=
  PSimp (ps_asg he (pg_sub (pe_var hN hv hd hcd) hix set_list ha) hs hw h1) fun Dn σ H ⟨F, b, env, Vd, R, ⟨⟨ds, hsl⟩, h⟩, k1, k2, k3, k4⟩ => ⟨F, b, env, [], _, R, h, fun d v H1 F1 as hd r => by
    obtain ⟨rfl, p⟩ := r.ow
    have R1 := R.res r
    obtain ⟨x, as, g1, ⟨w, rfl, ho⟩, nd, hm⟩ := R1.slot hsl
    obtain ⟨a, vs, ds', rfl, e2, h2, rfl, r2⟩ := ho.one
    refine ⟨.ref a, g1, F1, b, env, _, _, R1, hd, fun k kv H2 F2 bs hk rk => ?_⟩
    obtain ⟨rfl, pk⟩ := rk.ow
    rw [hsl] at hk
    cases k with
    | int k =>
      simp only [Rp] at pk
      subst pk
      obtain ⟨j, hj, hn⟩ := hk
      have R2 := R1.res rk
      have h3 := rk.sb a _ (hm a (List.mem_singleton_self _)).nb h2
      cases e2
      obtain ⟨a', vs', g2, g3, g4, g5, R3⟩ := R2.put1 (es := ds.set j d) (us := vs.set j v) hsl (RpAll.setAt (p.mono rk.fg) j (r2.mono rk.fg))
      have e3 : a' = a := by
        rw [g1] at g2
        cases g2
        rfl
      subst e3
      have e4 : vs' = vs := by
        rw [g3] at h3
        cases h3
        rfl
      subst e4
      exact ⟨a', vs', k, j, rfl, rfl, g3, by rw [g4.length]; exact hj, k1 _ _ F2 b _ hn (r.fg.trans rk.fg) R3⟩
    | _ => exact hk.elim⟩
/-- x[i], x a list of our own -/
def vIxOwn (i : Nat) (ti : VT) : VT := fun env Q => (∃ ds, env[i]? = some (.ow 1 (.lst ds))) ∧ ti env fun k => match env[i]?, k with
  | some (.ow 1 (.lst ds)), .int k => ∃ d, atI ds k = some d ∧ Q d
  | _, _ => False
theorem ve_ixOwn (i : Nat) {x : Str} {p pos : Pos} {ix : Expr} {ti : VT} (hi : VE X E 0 ix ti) (hN : X.N[i]? = some x := by rfl) (hv : Vis X.env.scope x := by first | exact Or.inl rfl | exact Or.inr (Or.inl rfl) | exact Or.inr (Or.inr rfl)) (hd : (x == ("__debug__" : Str)) = false := by decide)
    (hcd : (x == ("__classdict__" : Str)) = false := by decide) (hs : PlainIx ix := by exact fun _ _ => rfl) : VE X E 0 (.Subscript (.Name x p) ix pos) (vIxOwn i ti) :=
  PEimp (pe_ix ix_list (pe_var hN hv hd hcd) hi hs) fun σ H Q ⟨F, b, env, ex, Qd, R, ⟨⟨ds, hsl⟩, q⟩, k⟩ => by
    obtain ⟨x, as, g1, ⟨w, rfl, ho⟩, nd, hm⟩ := R.slot hsl
    obtain ⟨a, vs, ds', rfl, e2, h2, rfl, r2⟩ := ho.one
    cases e2
    refine ⟨.ref a, g1, F, b, env, ex, _, R, q, fun d v H1 F1 as hd r => ?_⟩
    obtain ⟨rfl, p⟩ := r.ow
    rw [hsl] at hd
    cases d with
    | int j =>
      simp only [Rp] at p
      subst p
      obtain ⟨d, e, hq⟩ := hd
      obtain ⟨v, ev, pv⟩ := atI_rel r2.length (fun i x e => r2.get e) e
      exact ⟨a, vs, j, v, rfl, rfl, .inl (.inl (r.sb a _ (hm a (List.mem_singleton_self _)).nb h2)), ev, k _ _ _ _ _ hq (r.trans (Res.scal r.le r.hb (pv.mono r.fg)))⟩
    | _ => exact hd.elim
end
end N
end
section
set_option Elab.async false
set_option linter.all false
set_option autoImplicit false
set_option maxRecDepth 100000
/-! N7: defs that keep a promise (where no repr is under way), their calls, by values. -/
namespace N
open PySem PySem.Spec PyProof.Rows L2

/-- as the layer's promise of a def, and nothing is being shown around the call -/
structure FnG (Pg : Program) (wd : World) (K : Fg) (mg : Str → Option Value) (bs : Heap) (lev : Nat) (fa : Addr) (fdt : FuncData) (prs : List Str) (spc : Sp) : Prop where
  ar : ∀ vs H Q Ex, spc vs H Q Ex → vs.length = prs.length
  go : ∀ (A : Around) (out : List PySem.Env) (sh : Shared) (H : Hp) (ags : Args) (us : List Value) (vs : List V) (Q : VK) (Ex : XK), Room lev A → A.guards = some [] → Env0 Pg wd K mg bs A out sh H → BindsTo sh fdt ags (prs.zip us) → Vals vs us → spc vs H Q Ex →
    codeAny (model Pg wd) A (.call (.ref fa) ags) (CR (L2.CX Pg wd) out Pg wd H sh Q Ex) sh
section
variable {Pg : Program} {wd : World} {K : Fg} {mg : Str → Option Value} {bs : Heap}
theorem FnG.up {j k : Nat} {fa : Addr} {fdt : FuncData} {prs : List Str} {spc : Sp} (G : FnG Pg wd K mg bs j fa fdt prs spc) (h : j ≤ k) : FnG Pg wd K mg bs k fa fdt prs spc :=
  ⟨G.ar, fun A out sh H ags us vs Q Ex hr => G.go A out sh H ags us vs Q Ex (hr.mono h)⟩
/-- a def by its body -/
theorem mkFn {lev : Nat} {fa : Addr} {nm ql : Str} {prm : Arguments} {bd : List Stmt} {sc : Scope} {dvs : List V} {kws : List (Str × V)} {fdt : FuncData} {N prs : List Str} {spc : Sp} (D : FunD K nm ql prm bd sc dvs kws fa fdt) (S : FnScope N prs sc)
    (ar : ∀ vs H Q Ex, spc vs H Q Ex → vs.length = prs.length)
    (body : ∀ (cdv : Value) (A : Around) (out : List PySem.Env) (sh : Shared) (H : Hp) (vs : List V) (Q : VK) (Ex : XK), Room lev (A.deeper (envOfC ql sc sh.heap.objs.size fa cdv)) → A.guards = some [] → spc vs H Q Ex →
      ∃ t, PSs (cxOf (L2.CX Pg wd) Pg wd K mg bs N ql sc fa cdv A out sh H Ex) bd t ∧ t { nx := fun _ H' => Q .non H', rt := Q } (start N vs) H) : FnG Pg wd K mg bs (lev + 1) fa fdt prs spc := by
  obtain ⟨oc, od, dV, kV, doc, pm, an, cdv, ct, osl, rfl, lk, hcd, _, _⟩ := D.ex
  refine ⟨ar, fun A out sh H ags us vs Q Ex room gs e hb rv hsp => ?_⟩
  have hlen := ar _ _ _ _ hsp
  have kin : K.In sh.heap := e.mod.kin.keeps fun a o q => (e.bs a o q).1
  have kinds : ∀ y ∈ prs.zip us, sc.names.lookup y.1 = some .local ∨ (sc.names.lookup y.1 = some .cell ∧ ((cellsFrom (sh.heap.objs.size + 1) sc.names []).lookup y.1).isSome = true) := by
    rintro ⟨n, v⟩ hy
    rcases S.par n (List.of_mem_zip hy).1 with h | h
    · exact Or.inl h
    · exact Or.inr ⟨h, PySem.W.cellsFrom_some _ _ _ (Or.inl h)⟩
  refine codeAny_call_function room.depth (kin _ _ lk) rfl S.co S.gen rfl (PySem.W.codeRec_of kin hcd) (hb _ _ _ _ (wpAny_newFunctionEnv_cells S.kind kinds fun nv hn s2 x => ?_))
  subst hn
  refine ⟨(e.mod.nolimit.keeps fun a o q => (e.bs a o q).1).keeps x.toInCall.keep, codeAny_func ?_⟩
  obtain ⟨t, ht, hq⟩ := body cdv A out sh H vs Q Ex (room.deeper _) gs hsp
  have J : Inv (cxOf (L2.CX Pg wd) Pg wd K mg bs N ql sc fa cdv A out sh H Ex) [] (start N vs) H s2 := inv_start S room.hd e hlen rv x
  refine wpAny_mono (ht.run [] s2 (start N vs) H _ J hq) (fun fl s3 hf => ?_) fun x s3 hx => hx
  cases fl with
  | ret u =>
    obtain ⟨v, σ3, H3, J3, r3, q3⟩ := hf
    exact ⟨v, H3, J3.os, J3.bare, J3.base, J3.hok, r3, q3⟩
  | next =>
    obtain ⟨σ3, H3, J3, q3⟩ := hf
    exact ⟨V.non, H3, J3.os, J3.bare, J3.base, J3.hok, rfl, q3⟩
  | brk => exact hf.elim fun _ z => z.elim fun _ z => z.2.elim
  | cont => exact hf.elim fun _ z => z.elim fun _ z => z.2.elim
end
section
variable {X : Cx}
theorem goFn {lev : Nat} {fa : Addr} {fdt : FuncData} {prs : List Str} {spc : Sp} {Ex : XK} {pins : List (Addr × Obj)} {σ : L2.St} {H : Hp} {s : Shared} {Q : VK} {ags : Args} {us : List Value} {vs : List V} (G : FnG X.prog X.w X.K X.mg X.base lev fa fdt prs spc) (hr : Room lev X.A) (gs : X.A.guards = some [])
    (hx : Passes (L2.CX X.prog X.w) X Ex) (I : Inv X pins σ H s) (hb : BindsTo s fdt ags (prs.zip us)) (rv : Vals vs us) (h : spc vs H Q Ex) : codeAny (model X.prog X.w) X.A (.call (.ref fa) ags) (fun r s' => match r with | .ok (.ret u) => EP X pins σ Q u s' | .ok _ => False | .error e => X.xe e s') s := by
  refine codeAny_mono (G.go X.A X.stack s H ags us vs Q Ex hr gs I.env0 hb rv h) fun r s' hq => ?_
  cases r with
  | error e => exact hx pins σ H s e s' I hq
  | ok fl =>
    cases fl with
    | ret u => exact I.after hq
    | next => exact hq.elim
    | brk => exact hq.elim
    | cont => exact hq.elim
/-- f(e, ..), the written arguments then the defaults -/
theorem pe_fn {lev : Nat} {fa : Addr} {fdt : FuncData} {prs : List Str} {spc : Sp} {dvs : List V} {dsv : List Value} {Ex : XK} {x : Str} {p pos : Pos} {e : Expr} {es : List Expr} {t : TA} (G : FnG X.prog X.w X.K X.mg X.base lev fa fdt prs spc) (hr : Room lev X.A) (gs : X.A.guards = some []) (hg : Gl X x) (hm : X.mg x = some (.ref fa)) (hk : PySem.W.keepIn X.K (.ref fa) = true)
    (hb : Binds X.K fdt prs dsv) (hd : Vals dvs dsv) (hx : Passes (L2.CX X.prog X.w) X Ex) (ha : PA X (e :: es) t) (hdb : (x == ("__debug__" : Str)) = false) (he : starEach (e :: es) X.env = (false, eval e X.env) :: starEach es X.env) (hpl : (backTo pos (starEach es X.env)).any (·.1) = false) :
    PE X (.Call (.Name x p) (e :: es) [] pos) (tCall spc dvs Ex t) := by
  refine ⟨fun pins s σ H Q I h => wpAny_Call_Name_kw (ld_glob I hg hm (PySem.W.callWith_K (h₀ := X.base) I.ok.mod.kin hk (thn (ha.run pos pins s σ H _ I h) fun us s1 ⟨vs, H1, I1, r1, q1⟩ => ⟨I1.kIn, ?_⟩) he hpl) hdb)⟩
  have r2 : Vals (vs ++ dvs) (us ++ dsv) := r1.append hd
  have hl : (us ++ dsv).length = prs.length := r2.length.symm.trans (G.ar _ _ _ _ q1)
  refine wpAny_call (codeAny_mono (goFn (ags := ⟨us, []⟩) G hr gs hx I1 (hb s1 us I1.kIn hl) r2 q1) fun r s' hq => ?_)
  cases r with
  | error e => exact hq
  | ok fl =>
    cases fl with
    | ret u => exact hq
    | next => exact hq.elim
    | brk => exact hq.elim
    | cont => exact hq.elim
end

/-! ### promises by values -/
/-- lv: how deep the told lists are new ones of their own; spec of the arguments and what is wanted -/
abbrev DSpec := List D → (D → Prop) → Prop
def pSp (K : Fg) (BI : List V → Prop) (fl : List Bool) (lv : Nat) (spec : DSpec) : Sp := fun vs H Q _ => ∃ F b ds Qd, Sub F H ∧ (∀ a, b = some a → F a = none ∧ ∃ xs, H a = some (.lst xs) ∧ BI xs) ∧ RpAs K F b fl ds vs ∧ spec ds Qd ∧
  ∀ d v H' G as, Qd d → Res K b BI H F H' G lv d v as → Q v H'
/-- the def called x, standing behind the top: it keeps its promise; dds: the defaults that fill up -/
def Kn (Pg : Program) (wd : World) (K : Fg) (mg : Str → Option Value) (bs : Heap) (BI : List V → Prop) (lev : Nat) (x : Str) (fl : List Bool) (lv : Nat) (spec : DSpec) (dds : List D) : Prop :=
  ∃ fa fdt prs dvs dsv, mg x = some (.ref fa) ∧ PySem.W.keepIn K (.ref fa) = true ∧ FnG Pg wd K mg bs lev fa fdt prs (pSp K BI (fl ++ dds.map fun _ => false) lv spec) ∧ Binds K fdt prs dsv ∧ Vals dvs dsv ∧ ∀ F, RpAll K F dds dvs
abbrev KnX (X : Cx) (BI : List V → Prop) (lev : Nat) (x : Str) (fl : List Bool) (lv : Nat) (spec : DSpec) (dds : List D) : Prop := Kn X.prog X.w X.K X.mg X.base BI lev x fl lv spec dds
theorem RpAs.app {K : Fg} {F : Hp} {b : Option Addr} : ∀ {fl : List Bool} {ds es : List D} {vs us : List V}, RpAs K F b fl ds vs → RpAll K F es us → RpAs K F b (fl ++ es.map fun _ => false) (ds ++ es) (vs ++ us)
  | [], [], es, vs, us, h, k => by
    have e : vs = [] := h
    subst e
    simp only [List.nil_append]
    induction es generalizing us with
    | nil =>
      simp only [RpAll] at k
      exact k
    | cons e es ih =>
      simp only [RpAll] at k
      obtain ⟨v, r, rfl, h1, h2⟩ := k
      exact ⟨v, r, rfl, h1, ih _ h2⟩
  | true :: fl, d :: ds, es, vs, us, ⟨e, a, r, e1, e2, h⟩, k => by
    subst e2
    exact ⟨e, a, _, e1, rfl, RpAs.app h k⟩
  | false :: fl, d :: ds, es, vs, us, ⟨v, r, e, h1, h2⟩, k => by
    subst e
    exact ⟨v, _, rfl, h1, RpAs.app h2 k⟩
section
variable {X : Cx} {E : En}
def vCall (spec : DSpec) (dds : List D) (t : VTA) : VT := fun env Q => t env fun ds => spec (ds ++ dds) Q
theorem ve_call {fl : List Bool} {lev lv : Nat} {x : Str} {spec : DSpec} {dds : List D} {p pos : Pos} {e : Expr} {es : List Expr} {t : VTA} (h : KnX X E.BI lev x fl lv spec dds) (hr : Room lev X.A) (gs : X.A.guards = some []) (ha : VA X E fl (e :: es) t) (hg : Gl X x := by rfl) (hdb : (x == ("__debug__" : Str)) = false := by decide)
    (he : starEach (e :: es) X.env = (false, eval e X.env) :: starEach es X.env := by rfl) (hpl : (backTo pos (starEach es X.env)).any (·.1) = false := by rfl) : VE X E lv (.Call (.Name x p) (e :: es) [] pos) (vCall spec dds t) := by
  obtain ⟨fa, fdt, prs, dvs, dsv, hm, hk, G, hb, hd, hds⟩ := h
  refine PEimp (pe_fn G hr gs hg hm hk hb hd passL ha hdb he hpl) fun σ H Q ⟨F, b, env, ex, Qd, R, q, k⟩ => ⟨F, b, env, ex, _, R, q, fun ds vs H1 F1 hq r ps => ?_⟩
  have R1 := R.res r
  exact ⟨F1, b, _, Qd, R1.le, fun a e => R1.bg a (.inl e), ps.app (hds F1), hq, fun d v H' G as hd' r' => k d v H' G as hd' (r.trans r')⟩
end

/-! ### a def by its body, by values -/
def slot1 : Bool → D → Sl
  | true, _ => .bg
  | false, d => .ow 0 d
def argsOf : List Bool → List D → Env
  | f :: fl, d :: ds => slot1 f d :: argsOf fl ds
  | _, _ => []
def envOf (N : List Str) (fl : List Bool) (ds : List D) : Env := argsOf fl ds ++ List.replicate (N.length - ds.length) .un
theorem RpAs.length {K : Fg} {F : Hp} {b : Option Addr} : ∀ {fl : List Bool} {ds : List D} {vs : List V}, RpAs K F b fl ds vs → vs.length = ds.length ∧ (argsOf fl ds).length = ds.length
  | [], [], vs, h => by
    have e : vs = [] := h
    subst e
    exact ⟨rfl, rfl⟩
  | true :: fl, d :: ds, _, ⟨e, a, r, e1, e2, h⟩ => by
    subst e2
    have := RpAs.length h
    simp only [List.length_cons, argsOf, this.1, this.2, and_self]
  | false :: fl, d :: ds, _, ⟨v, r, e, h1, h2⟩ => by
    subst e
    have := RpAs.length h2
    simp only [List.length_cons, argsOf, this.1, this.2, and_self]
theorem RpAs.slot {K : Fg} {H F : Hp} {b : Option Addr} : ∀ {fl : List Bool} {ds : List D} {vs : List V} {i : Nat} {s : Sl}, RpAs K F b fl ds vs → (argsOf fl ds)[i]? = some s → ∃ v, vs[i]? = some v ∧ SlR K H F b s (some v) []
  | [], [], _, _, _, h, e => by simp [argsOf] at e
  | true :: fl, d :: ds, _, i, s, ⟨e, a, r, e1, e2, h⟩, q => by
    subst e2
    cases i with
    | zero =>
      simp [argsOf, slot1] at q
      subst q
      exact ⟨_, rfl, rfl, a, e1, rfl⟩
    | succ j =>
      simp only [argsOf, List.getElem?_cons_succ] at q ⊢
      exact RpAs.slot h q
  | false :: fl, d :: ds, _, i, s, ⟨v, r, e, h1, h2⟩, q => by
    subst e
    cases i with
    | zero =>
      simp [argsOf, slot1] at q
      subst q
      exact ⟨_, rfl, v, rfl, Own.zero h1⟩
    | succ j =>
      simp only [argsOf, List.getElem?_cons_succ] at q ⊢
      exact RpAs.slot h2 q
theorem RepS.entry {K : Fg} {H F : Hp} {b : Option Addr} {BI : List V → Prop} {N : List Str} {fl : List Bool} {ds : List D} {vs : List V} (le : Sub F H) (hb : ∀ a, b = some a → F a = none ∧ ∃ xs, H a = some (.lst xs) ∧ BI xs) (r : RpAs K F b fl ds vs) : RepS K ⟨H, F, b, BI⟩ (L2.start N vs) H F b (envOf N fl ds) [] := by
  refine ⟨le, Sub.refl F, fun a o e => .inl e, SameB.refl _ _, fun a e => hb a (e.elim id id), fun a e => .inl e, fun a e => ?_, ?_, ⟨fun _ => none, fun i s x e1 e2 => ⟨[], ?_, List.nodup_nil, fun a m => by cases m⟩, fun a m => rfl⟩, List.nodup_nil, fun a m => by cases m⟩
  · obtain ⟨_, xs, h, _⟩ := hb a e
    exact ⟨_, h⟩
  · unfold L2.start envOf
    simp only [List.length_append, List.length_map, List.length_replicate, r.length.1, r.length.2]
  · unfold envOf at e1
    unfold L2.start at e2
    by_cases hi : i < ds.length
    · rw [List.getElem?_append_left (by rw [r.length.2]; exact hi)] at e1
      obtain ⟨v, ev, sv⟩ := r.slot (H := H) e1
      rw [List.getElem?_append_left (by simpa [r.length.1] using hi), List.getElem?_map, ev] at e2
      cases e2
      exact sv
    · rw [List.getElem?_append_right (by rw [r.length.2]; exact Nat.le_of_not_lt hi), List.getElem?_replicate] at e1
      split at e1
      · cases e1; rfl
      · cases e1
def bodyEnds (lv : Nat) (Qd : D → Prop) : VEnds := { nx := fun _ => lv = 0 ∧ Qd .non, rt := fun d _ => Qd d, bk := fun _ => False, ct := fun _ => False }
section
variable {Pg : Program} {wd : World} {K : Fg} {mg : Str → Option Value} {bs : Heap}
theorem mkV {fl : List Bool} {lev lv : Nat} {fa : Addr} {nm ql : Str} {prm : Arguments} {bd : List Stmt} {sc : Scope} {dvs : List V} {kws : List (Str × V)} {fdt : FuncData} {N prs : List Str} {BI : List V → Prop} {spec : DSpec} {t : VST} (D' : FunD K nm ql prm bd sc dvs kws fa fdt) (S : FnScope N prs sc)
    (ar : ∀ ds Qd, spec ds Qd → ds.length = prs.length)
    (body : ∀ (cdv : Value) (A : Around) (out : List PySem.Env) (sh : Shared) (H : Hp) (Ex : XK) (H0 F0 : Hp) (b0 : Option Addr), Room lev (A.deeper (envOfC ql sc sh.heap.objs.size fa cdv)) → A.guards = some [] →
      VSs (cxOf (L2.CX Pg wd) Pg wd K mg bs N ql sc fa cdv A out sh H Ex) ⟨H0, F0, b0, BI⟩ lv bd t)
    (read : ∀ ds Qd, spec ds Qd → t (bodyEnds lv Qd) (envOf N fl ds)) : FnG Pg wd K mg bs (lev + 1) fa fdt prs (pSp K BI fl lv spec) := by
  refine mkFn D' S (fun vs H Q Ex ⟨F, b, ds, Qd, _, _, r, h, _⟩ => by rw [r.length.1]; exact ar ds Qd h) fun cdv A out sh H vs Q Ex hr gs ⟨F, b, ds, Qd, le, hb, r, h, k⟩ => ?_
  have R0 := RepS.entry (N := N) le hb r
  refine ⟨_, body cdv A out sh H Ex H F b hr gs, F, b, envOf N fl ds, bodyEnds lv Qd, R0, read ds Qd h, fun σ' H' F' b' env' hn s R' => ?_, fun σ' H' F' b' env' hn s R' => hn.elim, fun σ' H' F' b' env' hn s R' => hn.elim, fun d v σ' H' F' b' env' as hq R' ho => ?_⟩
  · obtain ⟨rfl, hq⟩ := hn
    exact k _ _ H' F' [] hq ⟨R'.sb, fun a e => (R'.bg a (.inr e)).2, R'.f0, R'.le, R'.nw, Own.zero (by simp only [Rp]), List.nodup_nil, fun a m => by cases m⟩
  · exact k _ _ H' F' as hq ⟨R'.sb, fun a e => (R'.bg a (.inr e)).2, R'.f0, R'.le, R'.nw, ho, R'.exn, fun a m => ⟨(R'.exm a m).f, (R'.exm a m).h0, (R'.exm a m).h⟩⟩
end
end N
end
section
set_option Elab.async false
set_option linter.all false
set_option autoImplicit false
set_option maxRecDepth 100000
/-! N8: built-ins by values. -/
namespace N
open PySem PySem.Spec PyProof.Rows L2
section
variable {X : Cx} {E : En}
/-- f of some values: by g -/
def CallS (X : Cx) (BI : List V → Prop) (f : Value) (n : Nat) (g : List D → (D → Prop) → Prop) : Prop :=
  ∀ pins s σ (b : Option Addr) (H F : Hp) (vs : List V) (us : List Value) (ds : List D) (Qd : D → Prop) (Q : VK), Inv X pins σ H s → Sub F H → (∀ a, b = some a → ∃ xs, H a = some (.lst xs) ∧ BI xs) → Vals vs us → RpAll X.K F ds vs → g ds Qd →
    (∀ d v' H' G as, Qd d → Res X.K b BI H F H' G n d v' as → Q v' H') → wpAny (model X.prog X.w) X.A (call f us) (EP X pins σ Q) X.xe s
def rOf (X : Cx) (BI : List V → Prop) (n : Nat) (g : List D → (D → Prop) → Prop) : List V → Hp → VK → Prop := fun vs H Q => ∃ b F ds Qd, Sub F H ∧ (∀ a, b = some a → ∃ xs, H a = some (.lst xs) ∧ BI xs) ∧ RpAll X.K F ds vs ∧ g ds Qd ∧ ∀ d v' H' G as, Qd d → Res X.K b BI H F H' G n d v' as → Q v' H'
theorem CallS.r {BI : List V → Prop} {f : Value} {n : Nat} {g : List D → (D → Prop) → Prop} (h : CallS X BI f n g) : CallR X f (rOf X BI n g) := fun pins s σ H vs us Q I r ⟨b, F, ds, Qd, le, hb, ps, q, k⟩ => h pins s σ b H F vs us ds Qd Q I le hb r ps q k
def vB (g : List D → (D → Prop) → Prop) (t : VTA) : VT := fun env Q => t env fun ds => g ds Q
theorem b_imp {fl : List Bool} {n : Nat} {g : List D → (D → Prop) → Prop} {t : VTA} (hf : noFl fl = true) : ∀ σ H Q, lE X.K E n (vB g t) σ H Q → tCB (rOf X E.BI n g) (lA X.K E fl t) σ H Q := fun σ H Q ⟨F, b, env, ex, Qd, R, q, k⟩ =>
  ⟨F, b, env, ex, _, R, q, fun ds vs H1 F1 hq r ps => ⟨b, F1, ds, Qd, r.le, r.hb, ps.all hf, hq, fun d v' H' G as hd r' => k d v' H' G as hd (r.trans r')⟩⟩
theorem ve_b {fl : List Bool} {id : String} {n : Nat} {g : List D → (D → Prop) → Prop} {x : Str} {p pos : Pos} {e : Expr} {es : List Expr} {t : VTA} (h : CallS X E.BI (.builtin id) n g) (hm : X.mg x = none) (hv : bootBuiltins x = some (.builtin id)) (ha : VA X E fl (e :: es) t) (hf : noFl fl = true := by rfl) (hg : Gl X x := by rfl)
    (hn : x ≠ "__name__" := by decide) (hdb : (x == ("__debug__" : Str)) = false := by decide) (he : starEach (e :: es) X.env = (false, eval e X.env) :: starEach es X.env := by rfl) (hpl : (backTo pos (starEach es X.env)).any (·.1) = false := by rfl) : VE X E n (.Call (.Name x p) (e :: es) [] pos) (vB g t) :=
  PEimp (pe_callB h.r hg hm hv ha hn hdb he hpl) (b_imp hf)
theorem ve_ty {fl : List Bool} {T : String} {n : Nat} {g : List D → (D → Prop) → Prop} {x : Str} {p pos : Pos} {e : Expr} {es : List Expr} {t : VTA} (h : CallS X E.BI (.type T) n g) (hm : X.mg x = none) (hv : bootBuiltins x = some (.type T)) (ha : VA X E fl (e :: es) t) (hf : noFl fl = true := by rfl) (hg : Gl X x := by rfl)
    (hn : x ≠ "__name__" := by decide) (hdb : (x == ("__debug__" : Str)) = false := by decide) (he : starEach (e :: es) X.env = (false, eval e X.env) :: starEach es X.env := by rfl) (hpl : (backTo pos (starEach es X.env)).any (·.1) = false := by rfl) : VE X E n (.Call (.Name x p) (e :: es) [] pos) (vB g t) :=
  PEimp (pe_callTy h.r hg hm hv ha hn hdb he hpl) (b_imp hf)
theorem RpAll.one {K : Fg} {F : Hp} {d : D} {vs : List V} (h : RpAll K F [d] vs) : ∃ v, vs = [v] ∧ Rp K F d v := by
  simp only [RpAll] at h
  obtain ⟨v, r, rfl, h1, rfl⟩ := h
  exact ⟨v, rfl, h1⟩
theorem RpAll.two {K : Fg} {F : Hp} {d e : D} {vs : List V} (h : RpAll K F [d, e] vs) : ∃ v u, vs = [v, u] ∧ Rp K F d v ∧ Rp K F e u := by
  simp only [RpAll] at h
  obtain ⟨v, r, rfl, h1, u, r2, rfl, h2, rfl⟩ := h
  exact ⟨v, u, rfl, h1, h2⟩
/-- of no objects: a result without a new object -/
theorem CallS.of {BI : List V → Prop} {f : Value} {r : List V → Hp → VK → Prop} {n : Nat} {g : List D → (D → Prop) → Prop} (ho : CallR X f r)
    (k : ∀ (b : Option Addr) (H F : Hp) (vs : List V) (ds : List D) (Qd : D → Prop) (Q : VK), Sub F H → (∀ a, b = some a → ∃ xs, H a = some (.lst xs) ∧ BI xs) → RpAll X.K F ds vs → g ds Qd → (∀ d v' H' G as, Qd d → Res X.K b BI H F H' G n d v' as → Q v' H') → r vs H Q) : CallS X BI f n g :=
  fun pins s σ b H F vs us ds Qd Q I le hb r ps q kk => ho pins s σ H vs us Q I r (k b H F vs ds Qd Q le hb ps q kk)
def gAbs : List D → (D → Prop) → Prop
  | [.int i], Q => Q (.int (if i < 0 then -i else i))
  | _, _ => False
theorem cs_abs {BI : List V → Prop} : CallS X BI (.builtin "abs") 0 gAbs := .of call_abs fun b H F vs ds Qd Q le hb ps q k => by
  unfold gAbs at q
  split at q
  · obtain ⟨v, rfl, h⟩ := ps.one
    simp only [Rp] at h
    exact ⟨_, by rw [h], k _ _ _ _ _ q (Res.scal le hb (by simp only [Rp]))⟩
  · exact q.elim
def gMin : List D → (D → Prop) → Prop
  | [.int i, .int j], Q => Q (.int (if j < i then j else i))
  | _, _ => False
def gMax : List D → (D → Prop) → Prop
  | [.int i, .int j], Q => Q (.int (if j > i then j else i))
  | _, _ => False
theorem cs_min {BI : List V → Prop} (hc : X.calm = true) : CallS X BI (.builtin "min") 0 gMin := .of (call_min2 hc) fun b H F vs ds Qd Q le hb ps q k => by
  unfold gMin at q
  split at q
  · obtain ⟨v, u, rfl, h1, h2⟩ := ps.two
    simp only [Rp] at h1 h2
    exact ⟨_, _, by rw [h1, h2], k _ _ _ _ _ q (Res.scal le hb (by simp only [Rp]))⟩
  · exact q.elim
theorem cs_max {BI : List V → Prop} (hc : X.calm = true) : CallS X BI (.builtin "max") 0 gMax := .of (call_max2 hc) fun b H F vs ds Qd Q le hb ps q k => by
  unfold gMax at q
  split at q
  · obtain ⟨v, u, rfl, h1, h2⟩ := ps.two
    simp only [Rp] at h1 h2
    exact ⟨_, _, by rw [h1, h2], k _ _ _ _ _ q (Res.scal le hb (by simp only [Rp]))⟩
  · exact q.elim
def gInt : List D → (D → Prop) → Prop
  | [.int i], Q => Q (.int i)
  | [.bl k], Q => Q (.int (if k then 1 else 0))
  | _, _ => False
theorem cs_int {BI : List V → Prop} : CallS X BI (.type "int") 0 gInt := .of call_int1 fun b H F vs ds Qd Q le hb ps q k => by
  unfold gInt at q
  split at q
  · obtain ⟨v, rfl, h⟩ := ps.one
    simp only [Rp] at h
    exact .inl ⟨_, by rw [h], k _ _ _ _ _ q (Res.scal le hb (by simp only [Rp]))⟩
  · obtain ⟨v, rfl, h⟩ := ps.one
    simp only [Rp] at h
    exact .inr ⟨_, by rw [h], k _ _ _ _ _ q (Res.scal le hb (by simp only [Rp]))⟩
  · exact q.elim
def gStr : List D → (D → Prop) → Prop
  | [.int i], Q => i.natAbs.log2 < 1920 ∧ Q (.str (toString i))
  | _, _ => False
theorem cs_str {BI : List V → Prop} : CallS X BI (.type "str") 0 gStr := .of call_str_int fun b H F vs ds Qd Q le hb ps q k => by
  unfold gStr at q
  split at q
  · obtain ⟨v, rfl, h⟩ := ps.one
    simp only [Rp] at h
    exact ⟨_, by rw [h], q.1, k _ _ _ _ _ q.2 (Res.scal le hb (by simp only [Rp]))⟩
  · exact q.elim
def gLen : List D → (D → Prop) → Prop
  | [.lst xs], Q => Q (.int xs.length)
  | [.tup xs], Q => Q (.int xs.length)
  | [.scr xs], Q => Q (.int xs.length)
  | [.str x], Q => x.length ≤ sizeLine ∧ Q (.int x.length)
  | _, _ => False
theorem cs_len {BI : List V → Prop} : CallS X BI (.builtin "len") 0 gLen := by
  intro pins s σ b H F vs us ds Qd Q I le hb r ps q k
  unfold gLen at q
  split at q
  · obtain ⟨v, rfl, h⟩ := ps.one
    simp only [Rp] at h
    obtain ⟨a, ys, rfl, h1, pa⟩ := h
    exact call_len_seq pins s σ H _ us Q I r ⟨a, ys, rfl, .inl (.inl (.inl (le _ _ h1))), by rw [pa.length]; exact k _ _ _ _ _ q (Res.scal le hb (by simp only [Rp]))⟩
  · obtain ⟨v, rfl, h⟩ := ps.one
    simp only [Rp] at h
    obtain ⟨a, ys, rfl, h1, pa⟩ := h
    exact call_len_seq pins s σ H _ us Q I r ⟨a, ys, rfl, .inr (le.sqT h1), by rw [pa.length]; exact k _ _ _ _ _ q (Res.scal le hb (by simp only [Rp]))⟩
  · obtain ⟨v, rfl, h⟩ := ps.one
    simp only [Rp] at h
    obtain ⟨a, rfl, h1⟩ := h
    exact call_len_seq pins s σ H _ us Q I r ⟨a, _, rfl, .inl (le.sqL h1), by rw [List.length_map]; exact k _ _ _ _ _ q (Res.scal le hb (by simp only [Rp]))⟩
  · obtain ⟨v, rfl, h⟩ := ps.one
    simp only [Rp] at h
    exact call_len_str pins s σ H _ us Q I r ⟨_, by rw [h], q.1, k _ _ _ _ _ q.2 (Res.scal le hb (by simp only [Rp]))⟩
  · exact q.elim
/-! ### isinstance -/
def tyn : D → Option String
  | .non => some "NoneType"
  | .bl _ => some "bool"
  | .int _ => some "int"
  | .str _ => some "str"
  | .lst _ => some "list"
  | .tup _ => some "tuple"
  | .dic _ => some "dict"
  | .scr _ => some "list"
  | _ => none
def gIsi : List D → (D → Prop) → Prop
  | [d, .ty n], Q => ∃ t b, tyn d = some t ∧ kitB t n = some b ∧ Q (.bl b)
  | _, _ => False
theorem tyX_of {K : Fg} {F H : Hp} {d : D} {v : V} {t : String} (le : Sub F H) (h : Rp K F d v) (e : tyn d = some t) : TyX K H v (.type t) := by
  cases d <;> simp only [tyn, Option.some.injEq, reduceCtorEq] at e <;> subst e <;> simp only [Rp] at h
  case non => subst h; exact .base .non
  case bl => subst h; exact .base (.bl _)
  case int => subst h; exact .base (.int _)
  case str => subst h; exact .base (.str _)
  case lst => obtain ⟨a, xs, rfl, h1, _⟩ := h; exact .base (.lst (le _ _ h1))
  case tup =>
    obtain ⟨a, xs, rfl, h1, _⟩ := h
    rcases h1 with (h1 | ⟨o, h1⟩) | ⟨o, its, n, h1, h2, _⟩
    · exact .base (.tup (le _ _ h1))
    · exact .fTuple (le _ _ h1)
    · exact .kTuple h1 h2
  case dic => obtain ⟨a, xs, rfl, h1, _⟩ := h; exact .base (.dK (le _ _ h1))
  case scr =>
    obtain ⟨a, rfl, h1⟩ := h
    rcases h1 with (h1 | ⟨o, h1⟩) | ⟨o, its, n, h1, h2, _⟩
    · exact .base (.lst (le _ _ h1))
    · exact .base (.frz (le _ _ h1))
    · exact .kList h1 h2
theorem cs_isi {BI : List V → Prop} : CallS X BI (.builtin "isinstance") 0 gIsi := .of call_isi fun b H F vs ds Qd Q le hb ps q k => by
  unfold gIsi at q
  split at q
  · rename_i d n
    obtain ⟨t, c, e1, e2, q⟩ := q
    obtain ⟨v, u, rfl, h1, h2⟩ := ps.two
    simp only [Rp] at h2
    subst h2
    exact ⟨v, .ty n, .type t, .type n, c, rfl, .ty n, tyX_of le h1 e1, kit_ty e2, k _ _ _ _ _ q (Res.scal le hb (by simp only [Rp]))⟩
  · exact q.elim
/-- a built-in type by its name -/
theorem ve_tyN {x : Str} {n : String} {pos : Pos} (hm : X.mg x = none) (hv : bootBuiltins x = some (.type n)) (hg : Gl X x := by rfl) (hn : x ≠ "__name__" := by decide) (hd : (x == ("__debug__" : Str)) = false := by decide) : VE X E 0 (.Name x pos) (vC (.ty n)) :=
  PEimp (pe_bltn (v := .ty n) hg hm hv rfl hn hd) (c_imp fun F => by simp only [Rp])
/-! ### list(xs), sum, all, sorted -/
def gList : List D → (D → Prop) → Prop
  | [.lst xs], Q => Q (.lst xs)
  | [.tup xs], Q => Q (.lst xs)
  | _, _ => False
theorem cs_list0 {BI : List V → Prop} : CallS X BI (.type "list") 0 gList := .of call_list_of fun b H F vs ds Qd Q le hb ps q k => by
  unfold gList at q
  split at q
  all_goals first
    | exact q.elim
    | skip
  all_goals
    obtain ⟨v, rfl, h⟩ := ps.one
    simp only [Rp] at h
    obtain ⟨a, ys, rfl, h1, pa⟩ := h
    refine ⟨a, ys, rfl, ?_, fun p hp => k _ _ _ _ _ q (Res.new le hb hp (by
      simp only [Rp]
      exact ⟨p, ys, rfl, upd_same, pa.mono (Sub.new (fnone le hp))⟩))⟩
    first
      | exact .inl (.inl (.inl (le _ _ h1)))
      | exact .inr (le.sqT h1)
theorem cs_list1 {BI : List V → Prop} : CallS X BI (.type "list") 1 gList := .of call_list_of fun b H F vs ds Qd Q le hb ps q k => by
  unfold gList at q
  split at q
  all_goals first
    | exact q.elim
    | skip
  all_goals
    obtain ⟨v, rfl, h⟩ := ps.one
    simp only [Rp] at h
    obtain ⟨a, ys, rfl, h1, pa⟩ := h
    refine ⟨a, ys, rfl, ?_, fun p hp => k _ _ _ _ _ q (Res.own le hb hp pa)⟩
    first
      | exact .inl (.inl (.inl (le _ _ h1)))
      | exact .inr (le.sqT h1)
def intsOf : List D → Option (List Int)
  | [] => some []
  | .int i :: r => (intsOf r).map (i :: ·)
  | _ :: _ => none
theorem intsOf_eq : ∀ {ds : List D} {ns : List Int}, intsOf ds = some ns → ds = ns.map .int
  | [], ns, h => by simp only [intsOf, Option.some.injEq] at h; subst h; rfl
  | d :: r, ns, h => by
    cases d <;> simp only [intsOf, reduceCtorEq] at h
    obtain ⟨ms, h1, h2⟩ := Option.map_eq_some_iff.mp h
    subst h2
    rw [intsOf_eq h1]
    rfl
theorem intsOf_map : ∀ ns : List Int, intsOf (ns.map .int) = some ns
  | [] => rfl
  | n :: ns => by simp only [List.map_cons, intsOf, intsOf_map ns, Option.map_some]
theorem RpAll.intsV {K : Fg} {F : Hp} : ∀ {ns : List Int} {vs : List V}, RpAll K F (ns.map .int) vs → vs = ns.map V.int
  | [], _, h => by simpa only [List.map_nil, RpAll] using h
  | n :: ns, _, h => by
    simp only [List.map_cons, RpAll, Rp] at h
    obtain ⟨v, r, rfl, rfl, h2⟩ := h
    rw [RpAll.intsV h2]
    rfl
def gSum : List D → (D → Prop) → Prop
  | [.lst xs], Q => ∃ ns, intsOf xs = some ns ∧ Q (.int ns.sum)
  | _, _ => False
theorem cs_sum {BI : List V → Prop} (hc : X.calm = true) : CallS X BI (.builtin "sum") 0 gSum := .of (cr_sum hc) fun b H F vs ds Qd Q le hb ps q k => by
  unfold gSum at q
  split at q
  · obtain ⟨ns, e, q⟩ := q
    have := intsOf_eq e
    subst this
    obtain ⟨v, rfl, h⟩ := ps.one
    simp only [Rp] at h
    obtain ⟨a, ys, rfl, h1, pa⟩ := h
    rw [pa.intsV] at h1
    exact ⟨a, ns, rfl, .inl (.inl (le _ _ h1)), k _ _ _ _ _ q (Res.scal le hb (by simp only [Rp]))⟩
  · exact q.elim
def blsOf : List D → Option (List Bool)
  | [] => some []
  | .bl i :: r => (blsOf r).map (i :: ·)
  | _ :: _ => none
theorem blsOf_eq : ∀ {ds : List D} {ns : List Bool}, blsOf ds = some ns → ds = ns.map .bl
  | [], ns, h => by simp only [blsOf, Option.some.injEq] at h; subst h; rfl
  | d :: r, ns, h => by
    cases d <;> simp only [blsOf, reduceCtorEq] at h
    obtain ⟨ms, h1, h2⟩ := Option.map_eq_some_iff.mp h
    subst h2
    rw [blsOf_eq h1]
    rfl
theorem blsOf_map : ∀ ns : List Bool, blsOf (ns.map .bl) = some ns
  | [] => rfl
  | n :: ns => by simp only [List.map_cons, blsOf, blsOf_map ns, Option.map_some]
theorem RpAll.blsV {K : Fg} {F : Hp} : ∀ {ns : List Bool} {vs : List V}, RpAll K F (ns.map .bl) vs → vs = ns.map V.bl
  | [], _, h => by simpa only [List.map_nil, RpAll] using h
  | n :: ns, _, h => by
    simp only [List.map_cons, RpAll, Rp] at h
    obtain ⟨v, r, rfl, rfl, h2⟩ := h
    rw [RpAll.blsV h2]
    rfl
def gAll : List D → (D → Prop) → Prop
  | [.lst xs], Q => ∃ ns, blsOf xs = some ns ∧ Q (.bl (ns.all id))
  | _, _ => False
theorem cs_all {BI : List V → Prop} (hc : X.calm = true) : CallS X BI (.builtin "all") 0 gAll := .of (cr_all hc) fun b H F vs ds Qd Q le hb ps q k => by
  unfold gAll at q
  split at q
  · obtain ⟨ns, e, q⟩ := q
    have := blsOf_eq e
    subst this
    obtain ⟨v, rfl, h⟩ := ps.one
    simp only [Rp] at h
    obtain ⟨a, ys, rfl, h1, pa⟩ := h
    rw [pa.blsV] at h1
    exact ⟨a, ns, rfl, .inl (.inl (le _ _ h1)), k _ _ _ _ _ q (Res.scal le hb (by simp only [Rp]))⟩
  · exact q.elim
/-! ### repr -/
/-- a text that shows it -/
structure D.shw (d : D) : Prop where
  sh : d.sh 60
  ok : d.py.showable = true
  ln : d.py.shown.length ≤ sizeLine
def gRepr : List D → (D → Prop) → Prop
  | [d], Q => d.shw ∧ Q (.str d.py.shown)
  | _, _ => False
theorem cs_repr {BI : List V → Prop} (gs : X.A.guards = some []) (hu : X.A.units + 64 < cLine) : CallS X BI (.builtin "repr") 0 gRepr := by
  intro pins s σ b H F vs us ds Qd Q I le hb r ps q k
  unfold gRepr at q
  split at q
  · rename_i d
    obtain ⟨⟨h1, h2, h3⟩, q⟩ := q
    obtain ⟨v, rfl, h⟩ := ps.one
    obtain ⟨u, rfl, rv⟩ := vals1 r
    have hd := D.sh_lay d 60 h1
    have fin : ∀ h' tk t, (∀ b o, s.heap.get? b = some o → h'.get? b = some o) → EP X pins σ Q (.str d.py.shown t) { s with heap := h', toks := tk } := fun h' tk t kp =>
      ⟨.str d.py.shown, H, I.kept (h' := h') (t' := tk) kp, ⟨_, rfl⟩, k _ _ _ _ _ q (Res.scal le hb (by simp only [Rp]))⟩
    have dp := h.dp le h1
    obtain ⟨as, rd⟩ := Dp.reads I d.py v u dp rv
    have top : ∀ a, u = .ref a → wpAny (model X.prog X.w) X.A (call (.builtin "repr") [u]) (EP X pins σ Q) X.xe s := fun a e => by
      subst e
      exact repr_of_reads' rd h2 (PyData.noDict_hsm (PyData.hasDict_of_canLay _ hd.1)) gs (by omega) (fun _ _ e => e) (fun h' t tk kp => fin h' tk t kp) h3
    cases d
    case non =>
      simp only [Rp] at h
      subst h
      cases rv
      refine PySem.P.repr_of_none ?_
      have := fin s.heap (s.toks + 1) s.toks fun _ _ e => e
      simpa only [D.py, PyData.shown] using this
    case bl c =>
      simp only [Rp] at h
      subst h
      cases rv
      refine PySem.P.repr_of_bool ?_
      have := fin s.heap (s.toks + 1) s.toks fun _ _ e => e
      simpa only [D.py, PyData.shown] using this
    case int i =>
      simp only [Rp] at h
      subst h
      obtain ⟨t, rfl⟩ := rv
      refine PySem.P.repr_of_int (by simpa [D.py, PyData.showable] using h2) ?_
      have := fin s.heap (s.toks + 1) s.toks fun _ _ e => e
      simpa only [D.py, PyData.shown] using this
    case str x =>
      simp only [Rp] at h
      subst h
      obtain ⟨t, rfl⟩ := rv
      refine PySem.P.repr_of_str ?_ (by simpa [D.py, PyData.shown] using h3)
      have := fin s.heap (s.toks + 1) s.toks fun _ _ e => e
      simpa only [D.py, PyData.shown] using this
    case lst ds =>
      simp only [Rp] at h
      obtain ⟨a, xs, rfl, _⟩ := h
      exact top a rv
    case tup ds =>
      simp only [Rp] at h
      obtain ⟨a, xs, rfl, _⟩ := h
      exact top a rv
    all_goals exact absurd h1 (by simp only [D.sh, not_false_eq_true])
  · exact q.elim
/-! ### methods of a text, a list -/
def tyD (T : String) : D → Prop
  | .str _ => T = "str"
  | .int _ => T = "int"
  | .lst _ => T = "list"
  | .dic _ => T = "dict"
  | _ => False
def MtS (X : Cx) (BI : List V → Prop) (id : String) (n : Nat) (g : D → List D → (D → Prop) → Prop) : Prop :=
  ∀ pins s σ (b : Option Addr) (H F : Hp) (x : V) (vs : List V) (v : Value) (us : List Value) (d : D) (ds : List D) (Qd : D → Prop) (Q : VK), Inv X pins σ H s → Sub F H → (∀ a, b = some a → ∃ xs, H a = some (.lst xs) ∧ BI xs) → RelV x v → Vals vs us → Rp X.K F d x → RpAll X.K F ds vs → g d ds Qd →
    (∀ d v' H' G as, Qd d → Res X.K b BI H F H' G n d v' as → Q v' H') → wpAny (model X.prog X.w) X.A (call (.builtin id) (v :: us)) (EP X pins σ Q) X.xe s
def mrOf (X : Cx) (BI : List V → Prop) (n : Nat) (g : D → List D → (D → Prop) → Prop) : V → List V → Hp → VK → Prop := fun x vs H Q => ∃ b F d ds Qd, Sub F H ∧ (∀ a, b = some a → ∃ xs, H a = some (.lst xs) ∧ BI xs) ∧ Rp X.K F d x ∧ RpAll X.K F ds vs ∧ g d ds Qd ∧ ∀ d v' H' G as, Qd d → Res X.K b BI H F H' G n d v' as → Q v' H'
theorem MtS.r {BI : List V → Prop} {id : String} {n : Nat} {g : D → List D → (D → Prop) → Prop} (h : MtS X BI id n g) : MtR X id (mrOf X BI n g) := fun pins s σ H x xs v us Q I rx r ⟨b, F, d, ds, Qd, le, hb, pd, ps, q, k⟩ => h pins s σ b H F x xs v us d ds Qd Q I le hb rx r pd ps q k
def vM (T : String) (g : D → List D → (D → Prop) → Prop) (ta : VT) (t : VTA) : VT := fun env Q => ta env fun d => tyD T d ∧ t env fun ds => g d ds Q
theorem tyD_v {K : Fg} {F H : Hp} {T : String} {d : D} {v : V} (le : Sub F H) (h : Rp K F d v) (e : tyD T d) : tyV K T v H := by
  cases d <;> simp only [tyD] at e <;> simp only [Rp] at h
  case str => subst h; exact e
  case int => subst h; exact e
  case lst => obtain ⟨a, xs, rfl, h1, _⟩ := h; exact .inl ⟨e, _, .inl (.inl (le _ _ h1))⟩
  case dic => obtain ⟨a, xs, rfl, h1, _⟩ := h; exact .inr (.inr (.inl ⟨e, .inl ⟨_, le _ _ h1⟩⟩))
/-- h by pe_bm PLAIN SLOT TYPE rule.r OBJECT ARGS (pe_bm0 without arguments is not of this form) -/
theorem ve_m {fl : List Bool} {T : String} {n : Nat} {g : D → List D → (D → Prop) → Prop} {ta : VT} {t : VTA} {e : Expr} (h : PE X e (tBM X.K T (mrOf X E.BI n g) (lE X.K E 0 ta) (lA X.K E fl t))) (hf : noFl fl = true := by rfl) : VE X E n e (vM T g ta t) :=
  PEimp h fun σ H Q ⟨F, b, env, ex, Qd, R, q, k⟩ => ⟨F, b, env, ex, _, R, q, fun d v H1 F1 as hd r => by
    obtain ⟨rfl, p⟩ := r.ow
    refine ⟨tyD_v r.le p hd.1, F1, b, env, _, _, R.res r, hd.2, fun ds vs H2 F2 hq r2 ps => ⟨b, F2, d, ds, Qd, r2.le, r2.hb, p.mono r2.fg, ps.all hf, hq, fun d' v' H3 G as hd' r3 => k d' v' H3 G as hd' ((r.trans r2).trans r3)⟩⟩⟩
def gCount : D → List D → (D → Prop) → Prop
  | .lst xs, [.bl k], Q => ∃ bs, blsOf xs = some bs ∧ Q (.int (bs.count k : Nat))
  | _, _, _ => False
theorem countIn_bls (k : Bool) : ∀ bs : List Bool, countIn (.bool k) (bs.map PyData.bool) = (bs.count k : Nat)
  | [] => rfl
  | b :: bs => by
    rw [List.map_cons, countIn, countIn_bls k bs, List.count_cons]
    cases b <;> cases k <;> simp [same] <;> omega
theorem pys_bls : ∀ bs : List Bool, D.pys (bs.map .bl) = bs.map PyData.bool
  | [] => by simp only [List.map_nil, D.pys]
  | b :: bs => by simp only [List.map_cons, D.pys, D.py, pys_bls bs]
theorem ms_count {BI : List V → Prop} : MtS X BI "list.count" 0 gCount := by
  intro pins s σ b H F x vs v us d ds Qd Q I le hb rx r pd ps q k
  unfold gCount at q
  split at q
  · obtain ⟨bs, e, q⟩ := q
    have := blsOf_eq e
    subst this
    obtain ⟨u, rfl, h⟩ := ps.one
    simp only [Rp] at h pd
    subst h
    obtain ⟨a, ys, rfl, h1, pa⟩ := pd
    cases rx
    obtain ⟨w, rfl, rw'⟩ := vals1 r
    cases rw'
    have hs : D.shs (bs.map .bl) 10 := D.shs_of fun d m => by
      obtain ⟨b, _, rfl⟩ := List.mem_map.mp m
      simp only [D.sh]
    have dp := pa.dp le hs
    obtain ⟨its, rv, hl, _⟩ := I.list (.inl (.inl (le _ _ h1)))
    obtain ⟨as, rd⟩ := Dp.readsAll I _ _ _ dp rv
    refine count_list_bools hl.isList rd (by rw [pys_bls]; simp [Shape.has]) ?_
    rw [pys_bls, countIn_bls]
    exact ⟨.int _, H, I.tok _, ⟨_, rfl⟩, k _ _ _ _ _ q (Res.scal le hb (by simp only [Rp]))⟩
  · exact q.elim
end
end N
end
section
set_option Elab.async false
set_option linter.all false
set_option autoImplicit false
set_option maxRecDepth 100000
/-! N9: the bag; chains; constants of the module; bindings; truth. -/
namespace N
open PySem PySem.Spec PyProof.Rows L2
section
variable {X : Cx} {E : En} {lv : Nat}
/-! ### the bag is read and stored: all that is known of it is BD -/
def vIxBag (BD : List D → Prop) (i : Nat) (ti : VT) : VT := fun env Q => env[i]? = some .bg ∧ ti env fun k => match k with
  | .int k => ∀ ds, BD ds → ∃ d, atI ds k = some d ∧ scalD d ∧ Q d
  | _ => False
theorem scal_rp {K K' : Fg} {F F' : Hp} {d : D} {v : V} (s : scalD d) (h : Rp K F d v) : Rp K' F' d v := by
  cases d <;> simp only [scalD] at s <;> simpa only [Rp] using h
theorem ve_ixBag {BD : List D → Prop} (i : Nat) {x : Str} {p pos : Pos} {ix : Expr} {ti : VT} (hi : VE X E 0 ix ti) (hBI : E.BI = bagI BD := by rfl) (hN : X.N[i]? = some x := by rfl) (hv : Vis X.env.scope x := by first | exact Or.inl rfl | exact Or.inr (Or.inl rfl) | exact Or.inr (Or.inr rfl)) (hd : (x == ("__debug__" : Str)) = false := by decide)
    (hcd : (x == ("__classdict__" : Str)) = false := by decide) (hs : PlainIx ix := by exact fun _ _ => rfl) : VE X E 0 (.Subscript (.Name x p) ix pos) (vIxBag BD i ti) :=
  PEimp (pe_ix ix_list (pe_var hN hv hd hcd) hi hs) fun σ H Q ⟨F, b, env, ex, Qd, R, ⟨hsl, q⟩, k⟩ => by
    obtain ⟨x, as, g1, ⟨rfl, a, hb, rfl⟩, nd, hm⟩ := R.slot hsl
    refine ⟨.ref a, g1, F, b, env, ex, _, R, q, fun d v H1 F1 as hd r => ?_⟩
    obtain ⟨rfl, p⟩ := r.ow
    cases d with
    | int j =>
      simp only [Rp] at p
      subst p
      obtain ⟨xs, h2, bi⟩ := r.hb a hb
      rw [hBI] at bi
      obtain ⟨ds, hB, hxs⟩ := bi
      obtain ⟨d, e, hsc, hq⟩ := hd ds hB
      have pa := hxs X.K F1
      obtain ⟨v, ev, pv⟩ := atI_rel pa.length (fun i x e => pa.get e) e
      exact ⟨a, xs, j, v, rfl, rfl, .inl (.inl h2), ev, k _ _ _ _ _ hq (r.trans (Res.scal r.le r.hb pv))⟩
    | _ => exact hd.elim
def vStoreBag (BD : List D → Prop) (i : Nat) (t ti : VT) : VST := fun Vd env => env[i]? = some .bg ∧ t env fun d => scalD d ∧ ti env fun k => match k with
  | .int k => (∀ ds, BD ds → ∃ j, ixN ds.length k = some j ∧ BD (ds.set j d)) ∧ Vd.nx env
  | _ => False
/-- the bag's own list changes -/
theorem RepS.turn {K : Fg} {σ : L2.St} {H F : Hp} {a : Addr} {env : Env} {ex : List Addr} {xs : List V} (R : RepS K E σ H F (some a) env ex) (bi : E.BI xs) : RepS K E σ (upd H a (.lst xs)) F (some a) env ex := by
  obtain ⟨fa, ys, ha, _⟩ := R.bg a (.inl rfl)
  have keep : ∀ c, Mine E H F (some a) c → (upd H a (.lst xs)) c = H c := fun c m => upd_ne fun e => m.nb (by rw [e])
  have mine : ∀ c, Mine E H F (some a) c → Mine E (upd H a (.lst xs)) F (some a) c := fun c m => by
    obtain ⟨o, ho⟩ := m.h
    exact ⟨m.f, m.h0, m.nb, o, by rw [keep c m]; exact ho⟩
  refine ⟨fun c o e => ?_, R.f0, R.nw, fun c o n e => ?_, fun c e => ?_, R.bn, R.b0, R.len, ?_, R.exn, fun c m => mine c (R.exm c m)⟩
  · rw [upd_ne (fun q => by rw [q, fa] at e; cases e)]
    exact R.le c o e
  · have : c ≠ a := fun q => by
      subst q
      rcases R.bn c rfl with z | z
      · exact n z
      · rw [z] at e; cases e
    rw [upd_ne this]
    exact R.sb c o n e
  · by_cases q : c = a
    · subst q
      exact ⟨fa, xs, upd_same, bi⟩
    · rw [upd_ne q]
      exact R.bg c e
  · obtain ⟨tag, q, hx⟩ := R.sl
    refine ⟨tag, fun i s x e1 e2 => ?_, hx⟩
    obtain ⟨as, h1, h2, h3⟩ := q i s x e1 e2
    refine ⟨as, ?_, h2, fun c m => ⟨(h3 c m).1, mine c (h3 c m).2⟩⟩
    cases s with
    | un => exact h1
    | bg => exact h1
    | ow n d =>
      obtain ⟨v, e, o⟩ := h1
      exact ⟨v, e, Own.keep (Sub.refl _) o fun c m => keep c (h3 c m).2⟩
theorem RpAll.setAny {d : D} {v : V} (h : ∀ K F, Rp K F d v) {ds : List D} {vs : List V} (r : ∀ K F, RpAll K F ds vs) (j : Nat) : ∀ K F, RpAll K F (ds.set j d) (vs.set j v) := fun K F => RpAll.setAt (h K F) j (r K F)
theorem vs_storeBag {BD : List D → Prop} (i : Nat) {x : Str} {e ix : Expr} {t ti : VT} {p1 p2 pos : Pos} (he : VE X E 0 e t) (hix : VE X E 0 ix ti) (hBI : E.BI = bagI BD := by rfl) (hN : X.N[i]? = some x := by rfl) (hv : Vis X.env.scope x := by first | exact Or.inl rfl | exact Or.inr (Or.inl rfl) | exact Or.inr (Or.inr rfl)) (hd : (x == ("__debug__" : Str)) = false := by decide)
    (hcd : (x == ("__classdict__" : Str)) = false := by decide) (ha : ∀ v, assign (.Subscript (.Name x p1) ix p2) X.env v = (do
      let ov ← holding [v] (eval (.Name x p1) X.env)
      let iv ← holding [v, ov] (eval ix X.env)
      standAt p2
      holding [v, ov, iv] (setItem ov iv v)
      release [v, ov, iv] []) := by intro _; rfl) (hs : swapsWithSole [.Subscript (.Name x p1) ix p2] e pos.line X.env = pure false := by rfl) (hw : swappedStores [.Subscript (.Name x p1) ix p2] e X.env = pure none := by rfl)
    (h1 : (assignEach [.Subscript (.Name x p1) ix p2] X.env).map (·.2) = [assign (.Subscript (.Name x p1) ix p2) X.env] := by rfl) : VS X E lv (.Assign [.Subscript (.Name x p1) ix p2] e pos) (vStoreBag BD i t ti) :=
  PSimp (ps_asg he (pg_sub (pe_var hN hv hd hcd) hix set_list ha) hs hw h1) fun Dn σ H ⟨F, b, env, Vd, R, ⟨hsl, h⟩, k1, k2, k3, k4⟩ => ⟨F, b, env, [], _, R, h, fun d v H1 F1 as hd r => by
    obtain ⟨rfl, p⟩ := r.ow
    have R1 := R.res r
    obtain ⟨x, as, g1, ⟨rfl, a, hb, rfl⟩, nd, hm⟩ := R1.slot hsl
    subst hb
    refine ⟨.ref a, g1, F1, some a, env, _, _, R1, hd.2, fun k kv H2 F2 bs hk rk => ?_⟩
    obtain ⟨rfl, pk⟩ := rk.ow
    cases k with
    | int k =>
      simp only [Rp] at pk
      subst pk
      have R2 := R1.res rk
      obtain ⟨xs, h2, bi⟩ := rk.hb a rfl
      have bi' := bi
      rw [hBI] at bi'
      obtain ⟨ds, hB, hxs⟩ := bi'
      obtain ⟨j, hj, hB'⟩ := hk.1 ds hB
      have bi2 : E.BI (xs.set j v) := by
        rw [hBI]
        exact ⟨ds.set j d, hB', RpAll.setAny (fun K F => scal_rp hd.1 p) hxs j⟩
      exact ⟨a, xs, k, j, rfl, rfl, h2, by rw [(hxs X.K F2).length]; exact hj, k1 _ _ F2 (some a) _ hk.2 (r.fg.trans rk.fg) (R2.turn bi2)⟩
    | _ => exact hk.elim⟩
/-! ### a < b < c -/
def oB (g : D → D → (D → Prop) → Prop) (x y : D) (Q : Bool → Prop) : Prop := g x y (onB Q)
def vChain (C C' : Int → Int → Bool) (ta tb tc : VT) : VT := fun env Q => ta env fun x => tb env fun y => match x, y with
  | .int i, .int j => (C i j = true → tc env fun z => match z with
      | .int k => Q (.bl (C' j k))
      | _ => False) ∧ (C i j = false → Q (.bl false))
  | _, _ => False
theorem chain_imp {K : Fg} {C C' : Int → Int → Bool} {ta tb tc : VT} : ∀ σ H Q, lE K E 0 (vChain C C' ta tb tc) σ H Q → tChain (rI0 fun i j => .bl (C i j)) (rI0 fun i j => .bl (C' i j)) (lE K E 0 ta) (lE K E 0 tb) (lE K E 0 tc) σ H Q := by
  rintro σ H Q ⟨F, b, env, ex, Qd, R, q, k⟩
  refine ⟨F, b, env, ex, _, R, q, fun dx x H1 F1 as hx rx => ?_⟩
  obtain ⟨rfl, px⟩ := rx.ow
  have R1 := R.res rx
  refine ⟨F1, b, env, _, _, R1, hx, fun dy y H2 F2 bs hy ry => ?_⟩
  obtain ⟨rfl, py⟩ := ry.ow
  have R2 := R1.res ry
  cases dx <;> try exact hy.elim
  rename_i i
  cases dy <;> try exact hy.elim
  rename_i j
  simp only [Rp] at px py
  subst px
  subst py
  refine ⟨i, j, rfl, rfl, C i j, rfl, ?_⟩
  cases hc : C i j with
  | false =>
    have hy := hy.2 hc
    exact k _ _ _ _ [] hy ((rx.trans ry).trans (Res.scal ry.le ry.hb (by simp only [Rp])))
  | true =>
    have hy := hy.1 hc
    refine ⟨F2, b, env, _, _, R2, hy, fun dz z H3 F3 cs hz rz => ?_⟩
    obtain ⟨rfl, pz⟩ := rz.ow
    cases dz <;> try exact hz.elim
    rename_i l
    simp only [Rp] at pz
    subst pz
    exact ⟨j, l, rfl, rfl, k _ _ _ _ [] hz (((rx.trans ry).trans rz).trans (Res.scal rz.le rz.hb (by simp only [Rp])))⟩
def cLt (i j : Int) : Bool := decide (i < j)
def cLe (i j : Int) : Bool := decide (i ≤ j)
theorem ve_chain {op op' : CmpOp} {C C' : Int → Int → Bool} {a b c : Expr} {ta tb tc : VT} {pos : Pos} (ho : OpR X (compareOp op) (rI0 fun i j => .bl (C i j))) (ho' : OpR X (compareOp op') (rI0 fun i j => .bl (C' i j))) (ha : VE X E 0 a ta) (hb : VE X E 0 b tb) (hc : VE X E 0 c tc)
    (hm : lastMarks [op, op'] [b, c] = false := by with_unfolding_all rfl) : VE X E 0 (.Compare a [op, op'] [b, c] pos) (vChain C C' ta tb tc) := PEimp (pe_chain ho ho' ha hb hc hm) chain_imp
theorem vt_chain {op op' : CmpOp} {C C' : Int → Int → Bool} {a b c : Expr} {ta tb tc : VT} {pos : Pos} (ho : OpR X (compareOp op) (rI0 fun i j => .bl (C i j))) (ho' : OpR X (compareOp op') (rI0 fun i j => .bl (C' i j))) (ha : VE X E 0 a ta) (hb : VE X E 0 b tb) (hc : VE X E 0 c tc)
    (hm : lastMarks [op, op'] [b, c] = false := by with_unfolding_all rfl) : VTs X E (.Compare a [op, op'] [b, c] pos) (vTB (vChain C C' ta tb tc)) := PTimp (pt_chain ho ho' ha hb hc hm) fun σ H Q ⟨F, b, env, ex, Qd, R, q, k⟩ => chain_imp (E := E) σ H _ ⟨F, b, env, ex, onB Qd, R, q, fun d v H' F' as hd r => by
    obtain ⟨c, rfl, hc⟩ := onB_elim hd
    obtain ⟨rfl, r'⟩ := r.bool
    exact ⟨c, rfl, k c H' F' hc r'⟩⟩
/-! ### a module's constant -/
def Gv (K : Fg) (mg : Str → Option Value) (x : Str) (d : D) : Prop := ∃ v u, mg x = some u ∧ RelV v u ∧ ∀ F, Rp K F d v
theorem ve_g {x : Str} {d : D} {pos : Pos} (h : Gv X.K X.mg x d) (hg : Gl X x := by rfl) (hd : (x == ("__debug__" : Str)) = false := by decide) : VE X E 0 (.Name x pos) (vC d) := by
  obtain ⟨v, u, h1, h2, h3⟩ := h
  exact ve_glob hg h1 h2 h3 hd
/-! ### -x -/
def vNeg (t : VT) : VT := fun env Q => t env fun d => match d with
  | .int i => Q (.int (-i))
  | _ => False
theorem ve_neg {a : Expr} {t : VT} {pos : Pos} (h : VE X E 0 a t) : VE X E 0 (.UnaryOp .USub a pos) (vNeg t) :=
  PEimp (pe_un un_neg h) fun σ H Q ⟨F, b, env, ex, Qd, R, q, k⟩ => ⟨F, b, env, ex, _, R, q, fun d v H1 F1 as hd r => by
    obtain ⟨rfl, p⟩ := r.ow
    cases d with
    | int i =>
      simp only [Rp] at p
      exact ⟨i, p, k _ _ _ _ [] hd (r.trans (Res.scal r.le r.hb (by simp only [Rp])))⟩
    | _ => exact hd.elim⟩
/-! ### * of ints, a list times an int -/
def oMul (n : Nat) : D → D → (D → Prop) → Prop
  | .int i, .int j, Q => n = 0 ∧ CMulW i j ∧ Q (.int (i * j))
  | .lst xs, .int k, Q => -(2 ^ 63) ≤ k ∧ k < 2 ^ 63 ∧ xs.length * k.toNat ≤ sizeLine ∧ Q (.lst (List.replicate k.toNat xs).flatten)
  | _, _, _ => False
theorem RpAll.rep {K : Fg} {F : Hp} {ds : List D} {vs : List V} (h : RpAll K F ds vs) : ∀ n, RpAll K F (List.replicate n ds).flatten (List.replicate n vs).flatten
  | 0 => by simp [RpAll]
  | n + 1 => by
    simp only [List.replicate_succ, List.flatten_cons]
    exact h.append (RpAll.rep h n)
theorem ops_mul {BI : List V → Prop} {n : Nat} (hn : n = 0 ∨ n = 1 := by first | exact .inl rfl | exact .inr rfl) : OpS X BI (binaryOp .Mult) n (oMul n) := by
  intro pins s σ b H F x y v u dx dy Qd Q I le hb rx ry px py h k
  unfold oMul at h
  split at h
  · obtain ⟨rfl, h1, h2⟩ := h
    simp only [Rp] at px py
    exact op_mulW pins s σ H x y v u Q I rx ry ⟨_, _, px, py, h1, k _ _ _ _ _ h2 (Res.scal le hb (by simp only [Rp]))⟩
  · simp only [Rp] at px py
    obtain ⟨a, xs, rfl, h1, r1⟩ := px
    subst py
    obtain ⟨k1, k2, k3, q⟩ := h
    refine op_rep pins s σ H _ _ v u Q I rx ry ⟨a, _, xs, rfl, rfl, le _ _ h1, k1, k2, by rw [r1.length]; exact k3, fun p hp => ?_⟩
    rcases hn with rfl | rfl
    · refine k _ _ _ _ _ q (Res.new le hb hp ?_)
      simp only [Rp]
      exact ⟨p, _, rfl, upd_same, (r1.rep _).mono (Sub.new (fnone le hp))⟩
    · exact k _ _ _ _ _ q (Res.own le hb hp (r1.rep _))
  · exact h.elim
theorem ops_add1 {BI : List V → Prop} : OpS X BI (binaryOp .Add) 1 (fun x y Q => match x, y with
  | .lst xs, .lst ys => xs.length + ys.length ≤ sizeLine ∧ Q (.lst (xs ++ ys))
  | _, _ => False) := by
  intro pins s σ b H F x y v u dx dy Qd Q I le hb rx ry px py h k
  split at h
  · simp only [Rp] at px py
    obtain ⟨a, xs, rfl, h1, r1⟩ := px
    obtain ⟨c, ys, rfl, h2, r2⟩ := py
    exact op_cat pins s σ H _ _ v u Q I rx ry ⟨a, c, xs, ys, rfl, rfl, le _ _ h1, le _ _ h2, by rw [r1.length, r2.length]; exact h.1, fun p hp => k _ _ _ _ _ h.2 (Res.own le hb hp (r1.append r2))⟩
  · exact h.elim
end
section
variable {X : Cx} {E : En} {lv : Nat}
/-! ### a list of one's own is looked at, the answer a number, a truth, a text -/
theorem RepS.view {K : Fg} {σ : L2.St} {H F : Hp} {b : Option Addr} {env : Env} {ex : List Addr} {i n : Nat} {d : D} (R : RepS K E σ H F b env ex) (h : env[i]? = some (.ow n d)) : ∃ as, (∀ a ∈ as, F a = none ∧ H a ≠ none ∧ b ≠ some a) ∧ RepS K E σ H (Fz F H as) b (env.set i (.ow 0 d)) ex := by
  obtain ⟨tag, q, hx⟩ := R.sl
  have hi : i < env.length := (List.getElem?_eq_some_iff.mp h).1
  have hi2 : i < σ.length := by rw [← R.len]; exact hi
  obtain ⟨as, ⟨v, ev, ho⟩, nd, ha⟩ := q i _ σ[i] h (List.getElem?_eq_getElem hi2)
  have fa : ∀ a ∈ as, F a = none := fun a m => (ha a m).2.f
  have sF := Fz.sub (H := H) fa
  have dis : ∀ a ∈ ex, a ∉ as := fun a m z => by
    have := hx a m
    rw [(ha a z).1] at this
    cases this
  refine ⟨as, fun a m => ⟨fa a m, fun e => ?_, (ha a m).2.nb⟩, Fz.le R.le, R.f0.trans sF, fun a o e => ?_, R.sb, fun a e => ?_, R.bn, R.b0, by rw [List.length_set]; exact R.len, ⟨tag, fun j s x e1 e2 => ?_, hx⟩, R.exn, fun a m => ⟨?_, (R.exm a m).h0, (R.exm a m).nb, (R.exm a m).h⟩⟩
  · obtain ⟨o, q⟩ := (ha a m).2.h
    rw [e] at q
    cases q
  · unfold Fz at e
    by_cases m : a ∈ as
    · exact .inr (ha a m).2.h0
    · rw [if_neg m] at e
      exact R.nw a o e
  · obtain ⟨f, k⟩ := R.bg a e
    refine ⟨?_, k⟩
    unfold Fz
    by_cases m : a ∈ as
    · exfalso
      rcases e with e | e
      · exact (ha a m).2.nb e
      · exact (ha a m).2.nb0 R e
    · rw [if_neg m]
      exact f
  · by_cases z : i = j
    · subst z
      rw [List.getElem?_set_self hi] at e1
      cases e1
      rw [List.getElem?_eq_getElem hi2] at e2
      cases e2
      exact ⟨[], ⟨v, ev, Own.zero (ho.frz fa)⟩, List.nodup_nil, fun a m => by cases m⟩
    · rw [List.getElem?_set_ne z] at e1
      obtain ⟨bs, h1, h2, h3⟩ := q j s x e1 e2
      have nin : ∀ a ∈ bs, a ∉ as := fun a m w => by
        have t1 := (h3 a m).1
        rw [(ha a w).1] at t1
        exact z (Option.some.inj t1)
      refine ⟨bs, ?_, h2, fun a m => ⟨(h3 a m).1, ?_, (h3 a m).2.h0, (h3 a m).2.nb, (h3 a m).2.h⟩⟩
      · cases s with
        | un => exact h1
        | bg => exact h1
        | ow k d' =>
          obtain ⟨u, eu, o'⟩ := h1
          exact ⟨u, eu, Own.keep sF o' fun a m => rfl⟩
      · unfold Fz
        rw [if_neg (nin a m)]
        exact (h3 a m).2.f
  · unfold Fz
    rw [if_neg (dis a m)]
    exact (R.exm a m).f
theorem Res.unview {K : Fg} {b : Option Addr} {BI : List V → Prop} {H F H' G : Hp} {d e : D} {v u : V} {as bs : List Addr} (fa : ∀ a ∈ bs, F a = none ∧ H a ≠ none ∧ b ≠ some a) (r : Res K b BI H (Fz F H bs) H' G 0 d v as) (h : Rp K (fun a => if a ∈ bs then none else G a) e u) : Res K b BI H F H' (fun a => if a ∈ bs then none else G a) 0 e u [] := by
  refine ⟨r.sb, r.hb, fun a o q => ?_, fun a o q => ?_, fun a o q => ?_, Own.zero h, List.nodup_nil, fun a m => by cases m⟩
  · have n : a ∉ bs := fun m => by rw [(fa a m).1] at q; cases q
    rw [if_neg n]
    refine r.fg a o ?_
    unfold Fz
    rw [if_neg n]
    exact q
  · split at q
    · cases q
    · exact r.le a o q
  · split at q
    · cases q
    · rename_i n
      rcases r.gn a o q with z | z
      · unfold Fz at z
        rw [if_neg n] at z
        exact .inl z
      · exact .inr z
def vView (i : Nat) (t : VT) : VT := fun env Q => match env[i]? with
  | some (.ow _ d) => t (env.set i (.ow 0 d)) fun r => scalD r ∧ Q r
  | _ => False
theorem ve_view (i : Nat) {e : Expr} {t : VT} (h : VE X E 0 e t) : VE X E 0 e (vView i t) := PEimp h fun σ H Q ⟨F, b, env, ex, Qd, R, q, k⟩ => by
  unfold vView at q
  split at q
  · rename_i n d e
    obtain ⟨as, fa, R'⟩ := R.view e
    refine ⟨_, b, _, ex, _, R', q, fun d v H1 F1 bs hd r => ?_⟩
    obtain ⟨rfl, p⟩ := r.ow
    exact k d v H1 _ [] hd.2 (r.unview fa (scal_rp hd.1 p))
  · exact q.elim
def vtView (i : Nat) (t : VTT) : VTT := fun env Q => match env[i]? with
  | some (.ow _ d) => t (env.set i (.ow 0 d)) Q
  | _ => False
theorem vt_view (i : Nat) {e : Expr} {t : VTT} (h : VTs X E e t) : VTs X E e (vtView i t) := PTimp h fun σ H Q ⟨F, b, env, ex, Qd, R, q, k⟩ => by
  unfold vtView at q
  split at q
  · rename_i n d e
    obtain ⟨as, fa, R'⟩ := R.view e
    exact ⟨_, b, _, ex, Qd, R', q, fun c H1 F1 hc r => k c H1 _ hc (r.unview fa (by simp only [Rp]))⟩
  · exact q.elim
/-- x op= e, x a number -/
def vAug (i : Nat) (g : D → D → (D → Prop) → Prop) (t : VT) : VST := fun Vd env => match env[i]? with
  | some (.ow 0 d) => t env fun e => g d e fun r => Vd.nx (env.set i (.ow 0 r))
  | _ => False
theorem vs_aug (i : Nat) {op : Operator} {g : D → D → (D → Prop) → Prop} {ti : TIp} {x : Str} {e : Expr} {t : VT} {p pos : Pos} (hp : PS X (.AugAssign (.Name x p) op e pos) (tAug i (lE X.K E 0 t) ti))
    (hg : ∀ (b : Option Addr) (H F : Hp) (x y : V) (dx dy : D) (Qd : D → Prop) (Q : VK), Sub F H → (∀ a, b = some a → ∃ xs, H a = some (.lst xs) ∧ E.BI xs) → Rp X.K F dx x → Rp X.K F dy y → g dx dy Qd → (∀ d v' H' G as, Qd d → Res X.K b E.BI H F H' G 0 d v' as → Q v' H') → ti x y H Q) : VS X E lv (.AugAssign (.Name x p) op e pos) (vAug i g t) :=
  PSimp hp fun Dn σ H ⟨F, b, env, Vd, R, h, k1, k2, k3, k4⟩ => by
    unfold vAug at h
    split at h
    · rename_i d e
      obtain ⟨x, as, h1, ⟨v, rfl, rfl, hr⟩, h3⟩ := R.slot e
      refine ⟨v, h1, F, b, env, [], _, R, h, fun d' v' H1 F1 as hd r => ?_⟩
      obtain ⟨rfl, p⟩ := r.ow
      refine hg b H1 F1 v v' d d' _ _ r.le r.hb (hr.mono r.fg) p hd fun z w H2 G cs hz r2 => ?_
      obtain ⟨rfl, pz⟩ := r2.ow
      have R2 := (R.res r).res r2
      exact k1 _ _ G b _ hz (r.fg.trans r2.fg) (RepS.store (as := []) (H' := H2) (F' := G) (b' := b) R2 ⟨w, rfl, Own.zero pz⟩ R2.exn)
    · exact h.elim
theorem aug_int {BI : List V → Prop} {g : Int → Int → Int} : ∀ (b : Option Addr) (H F : Hp) (x y : V) (dx dy : D) (Qd : D → Prop) (Q : VK), Sub F H → (∀ a, b = some a → ∃ xs, H a = some (.lst xs) ∧ BI xs) → Rp X.K F dx x → Rp X.K F dy y → oI0 (fun i j => .int (g i j)) dx dy Qd → (∀ d v' H' G as, Qd d → Res X.K b BI H F H' G 0 d v' as → Q v' H') → ipI g x y H Q :=
  fun b H F x y dx dy Qd Q le hb px py h k => by
    obtain ⟨i, j, rfl, rfl, q⟩ := oI0_elim h
    simp only [Rp] at px py
    exact ⟨i, j, px, py, k _ _ _ _ _ q (Res.scal le hb (by simp only [Rp]))⟩
/-- x = [..], read as anything behind -/
theorem vs_setLc0 (i : Nat) {n : Nat} {own : List (Str × Nat)} {y : Str} {py : Pos} {elt tg iter : Expr} {ifs : List Expr} {scope : Scope} {pos spos : Pos} {vi : VTI} {g : VG} {tt : VTT} {te : VT} {is : List Nat} (hi : VI X E tg iter vi) (ok : BlkOk X.N X.env.scope scope own) (hg : BlkP X scope fun X => VTg X E is tg g) (ht : BlkP X scope fun X => VTsL X E ifs tt) (he : BlkP X scope fun X => VE X E n elt te)
    (hsw : swapsWith (.ListComp elt [⟨tg, iter, ifs, 0⟩] scope pos) (some (.Name y py)) spos.line X.env = pure true := by exact sw_true rfl rfl rfl (by decide +kernel)) (hN : X.N.Nodup := by exact nd) (hy : X.N[i]? = some y := by rfl) (hyl : X.env.scope.names.lookup y = some .local := by rfl) (hc : X.calm = true := by rfl) (hm : ∀ j ∈ is, j ∈ own.map (·.2) := by decide) (hs : ∀ x, foldedSetIterable iter X.env x = pure x := by intro _; rfl) :
    VS X E lv (.Assign [.Name y py] (.ListComp elt [⟨tg, iter, ifs, 0⟩] scope pos) spos) (vSet i 0 (vLc vi g tt te (own.map (·.2)))) :=
  PSimp (ps_setLc (g := lG X.K E is g) (tt := lT X.K E tt) (te := lE X.K E n te) hc hN hy hyl hsw hi ok hg ht he hs) fun Dn σ H ⟨F, b, env, Vd, R, h, k1, k2, k3, k4⟩ => lc_read hm σ H _ ⟨F, b, env, [], _, R, h, fun d v H1 F1 as hd r => by
    have r2 := r.frz
    exact k1 _ _ _ b _ hd r2.fg (RepS.store (as := []) (H' := H1) (F' := F1) (b' := b) (R.res r2) ⟨v, rfl, r2.ow⟩ List.nodup_nil)⟩
theorem hu65 {k : Nat} {A : Around} (h : Room k A) : A.units + 65 < cLine := by have := h.un; omega
end
end N
end
section
set_option Elab.async false
set_option linter.all false
set_option autoImplicit false
set_option maxRecDepth 100000
/-! N10: the top's facts, the end of a law, promises by the number of arguments. -/
namespace N
open PySem PySem.Spec PyProof.Rows L2
/-! ### promises by the number of arguments -/
def sp1 (f : D → (D → Prop) → Prop) : DSpec := fun ds Q => match ds with | [a] => f a Q | _ => False
def sp2 (f : D → D → (D → Prop) → Prop) : DSpec := fun ds Q => match ds with | [a, b] => f a b Q | _ => False
def sp3 (f : D → D → D → (D → Prop) → Prop) : DSpec := fun ds Q => match ds with | [a, b, c] => f a b c Q | _ => False
def sp4 (f : D → D → D → D → (D → Prop) → Prop) : DSpec := fun ds Q => match ds with | [a, b, c, d] => f a b c d Q | _ => False
def sp5 (f : D → D → D → D → D → (D → Prop) → Prop) : DSpec := fun ds Q => match ds with | [a, b, c, d, e] => f a b c d e Q | _ => False
theorem sp1_len {f} {ds : List D} {Q : D → Prop} (h : sp1 f ds Q) : ds.length = 1 := by
  match ds, h with
  | [_], _ => rfl
theorem sp2_len {f} {ds : List D} {Q : D → Prop} (h : sp2 f ds Q) : ds.length = 2 := by
  match ds, h with
  | [_, _], _ => rfl
theorem sp3_len {f} {ds : List D} {Q : D → Prop} (h : sp3 f ds Q) : ds.length = 3 := by
  match ds, h with
  | [_, _, _], _ => rfl
theorem sp4_len {f} {ds : List D} {Q : D → Prop} (h : sp4 f ds Q) : ds.length = 4 := by
  match ds, h with
  | [_, _, _, _], _ => rfl
theorem sp5_len {f} {ds : List D} {Q : D → Prop} (h : sp5 f ds Q) : ds.length = 5 := by
  match ds, h with
  | [_, _, _, _, _], _ => rfl
theorem sp1_all {f} {P : List D → (D → Prop) → Prop} (k : ∀ a Q, f a Q → P [a] Q) : ∀ ds Q, sp1 f ds Q → P ds Q := fun ds Q h => match ds, h with | [a], h => k a Q h
theorem sp2_all {f} {P : List D → (D → Prop) → Prop} (k : ∀ a b Q, f a b Q → P [a, b] Q) : ∀ ds Q, sp2 f ds Q → P ds Q := fun ds Q h => match ds, h with | [a, b], h => k a b Q h
theorem sp3_all {f} {P : List D → (D → Prop) → Prop} (k : ∀ a b c Q, f a b c Q → P [a, b, c] Q) : ∀ ds Q, sp3 f ds Q → P ds Q := fun ds Q h => match ds, h with | [a, b, c], h => k a b c Q h
theorem sp4_all {f} {P : List D → (D → Prop) → Prop} (k : ∀ a b c d Q, f a b c d Q → P [a, b, c, d] Q) : ∀ ds Q, sp4 f ds Q → P ds Q := fun ds Q h => match ds, h with | [a, b, c, d], h => k a b c d Q h
theorem sp5_all {f} {P : List D → (D → Prop) → Prop} (k : ∀ a b c d e Q, f a b c d e Q → P [a, b, c, d, e] Q) : ∀ ds Q, sp5 f ds Q → P ds Q := fun ds Q h => match ds, h with | [a, b, c, d, e], h => k a b c d e Q h
/-! ### the top -/
/-- a constant of the top -/
inductive Kc where
  | tup (ns : List Int)
  | int (i : Int)
  | str (s : Str)
def Kc.d : Kc → D
  | .tup ns => .tup (ns.map .int)
  | .int i => .int i
  | .str s => .str s
abbrev Tps := List (Str × Kc)
def kcB (K : Fg) (x : Str) : Kc → Bool
  | .tup ns => He.tupB K x (ns.map He.Dv.int) && He.eqO (PySem.W.nsIn K mainGlobals x) (some (some (.ref (He.ga K x))))
  | .int i => match PySem.W.nsIn K mainGlobals x with
    | some (some (.int j _)) => decide (j = i)
    | _ => false
  | .str i => match PySem.W.nsIn K mainGlobals x with
    | some (some (.str j _)) => decide (j = i)
    | _ => false
def tpsB (tps : Tps) (K : Fg) : Bool := tps.all fun q => kcB K q.1 q.2
structure Stg (fa : List He.Fa) (fn : List He.DefD) (tps : Tps) (K : Fg) (mg : Str → Option Value) : Prop where
  says : He.SaysD fa fn K
  tup : tpsB tps K = true
  g : ∀ x, (He.Fa.glo x).ok K = true → mg x = some (.ref (He.ga K x))
  f : ∀ x, (He.Fa.free x).ok K = true → mg x = none
  n : ∀ x v, PySem.W.nsIn K mainGlobals x = some (some v) → mg x = some v
theorem Stg.const {fa : List He.Fa} {fn : List He.DefD} {tps : Tps} {K : Fg} {mg : Str → Option Value} (S : Stg fa fn tps K mg) (i : Nat) {x : Str} {k : Kc} (h : tps[i]? = some (x, k)) : Gv K mg x k.d := by
  have h1 : kcB K x k = true := List.all_eq_true.mp S.tup _ (List.mem_of_getElem? h)
  cases k with
  | tup ns =>
    obtain ⟨h2, h3⟩ := He.ba h1
    refine ⟨.ref (He.ga K x), .ref (He.ga K x), S.n x _ (He.eqO_ok h3), rfl, fun F => ?_⟩
    simp only [Kc.d, Rp]
    have h4 := He.tupB_ok h2 F
    refine ⟨He.ga K x, _, rfl, h4, ?_⟩
    rw [List.map_map]
    have e : (He.Dv.v K ∘ He.Dv.int) = V.int := rfl
    rw [e]
    exact RpAll.ints ns
  | int i =>
    unfold kcB at h1
    dsimp only at h1
    split at h1
    · rename_i j t e
      obtain rfl := of_decide_eq_true h1
      exact ⟨.int j, _, S.n x _ e, ⟨t, rfl⟩, fun F => by simp only [Kc.d, Rp]⟩
    · cases h1
  | str i =>
    unfold kcB at h1
    dsimp only at h1
    split at h1
    · rename_i j t e
      obtain rfl := of_decide_eq_true h1
      exact ⟨.str j, _, S.n x _ e, ⟨t, rfl⟩, fun F => by simp only [Kc.d, Rp]⟩
    · cases h1
def hookX (n : Nat) (fa : List He.Fa) (fn : List He.DefD) (tps : Tps) : PySem.W.Hook where
  α := He.AlD × Bool
  obs := fun s => (He.obsDG n fa fn s.heap.get?, tpsB tps (He.frG s.heap.get? (He.asD s.heap.get? n)))
  val := fun _ => (He.valD fn, true)
  says := fun _ h => ∃ K : Fg, K.In h ∧ He.SaysD fa fn K ∧ tpsB tps K = true
  of := fun _ s e => ⟨He.frG s.heap.get? (He.asD s.heap.get? n), He.frG_in, congrArg (fun z : He.AlD × Bool => z.1) e, congrArg (fun z : He.AlD × Bool => z.2) e⟩
  keeps := fun _ _ _ ⟨K, hK, c⟩ k => ⟨K, PySem.W.Frag.In.keeps hK k, c⟩
def obX (n : Nat) (fa : List He.Fa) (fn : List He.DefD) (tps : Tps) (s : PySem.W.SharedT) : He.AlD × Bool := (He.obsDG n fa fn (HandSHeadRun.getT s), tpsB tps (He.frG (HandSHeadRun.getT s) (He.asD (HandSHeadRun.getT s) n)))
theorem obX_eq (n : Nat) (fa : List He.Fa) (fn : List He.DefD) (tps : Tps) (s : PySem.W.SharedT) : obX n fa fn tps s = (hookX n fa fn tps).obs s.abs := by
  have e : HandSHeadRun.getT s = s.abs.heap.get? := funext (HandSHeadRun.getT_eq s)
  unfold obX hookX
  rw [e] <;> rfl
theorem Stg.of {fa : List He.Fa} {fn : List He.DefD} {tps : Tps} {K : Fg} {mg : Str → Option Value} {h : Heap} (X : K.In h) (G : h.Ns mainGlobals mg) (c : He.SaysD fa fn K) (t : tpsB tps K = true) : Stg fa fn tps K mg :=
  ⟨c, t, fun _ q => He.glo_ok X G q, fun _ q => He.free_ok X G q, fun _ _ q => PySem.W.mg_of X G q⟩
/-- a law of the script: the promise of its def, used at the head -/
def spLaw : DSpec := sp1 fun a Q => ∃ ns : List Int, a = .scr ns ∧ ns.length ≤ 63 ∧ Q (.bl true)
/-- the head's call, for such a def -/
theorem law_end {P : Program} {w : World} {K : Fg} {mg mb : Str → Option Value} {BI : List V → Prop} {lev : Nat} {fa a : Addr} {fd : FuncData} {x : Str} {s₁ : Shared} {vs : List Value} {ns : List Int}
    (KX : K.In s₁.heap) (hns : s₁.heap.Ns mainGlobals mg) (hb : s₁.heap.Ns builtinsNs mb) (hbb : ∀ x : Str, x ≠ "__name__" → mb x = bootBuiltins x) (hlim : s₁.heap.NoLimit) (hg : s₁.gens = #[])
    (ha : s₁.heap.get? a = some { cls := .type "list", data := .seq vs.toArray }) (hi : IntsAre vs ns) (hl : ns.length ≤ 63) (hr : Room lev callerA)
    (F : ∀ base : Heap, K.In base → base.Ns mainGlobals mg → FnG P w K mg base lev fa fd [x] (pSp K BI [false] 0 spLaw)) (hbind : ∀ (s : Shared) (u : Value), BindsTo s fd ⟨[u], []⟩ [(x, u)]) :
    codeAny (model P w) callerA (.call (.ref fa) ⟨[.ref a], []⟩) (fun r s' => r = .ok (.ret (.bool true)) ∧ OldK s₁.heap s'.heap ∧ s'.os = s₁.os ∧ AllBare s'.gens) s₁ := by
  -- the layer's own end takes a promise without guards; one that holds at the caller alone will do
  have key : ∀ base : Heap, K.In base → base.Ns mainGlobals mg → ∀ (H : Hp), Only H → SqL K H a (ns.map V.int) → Env0 P w K mg base callerA [] s₁ H →
      codeAny (model P w) callerA (.call (.ref fa) ⟨[.ref a], []⟩) (CR (L2.CX P w) [] P w H s₁ (fun v _ => v = .bl true) fun _ _ _ => False) s₁ := fun base k1 k2 H hO hS e0 => by
    refine (F base k1 k2).go callerA [] s₁ H ⟨[.ref a], []⟩ [.ref a] [.ref a] _ _ hr rfl e0 (hbind s₁ (.ref a)) (.cons rfl .nil) ?_
    refine ⟨H, none, [.scr ns], fun d => d = .bl true, Sub.refl H, (fun a e => by cases e), ?_, ⟨ns, rfl, hl, rfl⟩, fun d v H' G as e r => ?_⟩
    · exact ⟨.ref a, [], rfl, (by simp only [Rp]; exact ⟨a, rfl, hS⟩), rfl⟩
    · subst e
      exact r.bool.1
  have lenV := hi.length
  have rv := vals_ints hi
  have core : ∀ H : Hp, Only H → SqL K H a (ns.map V.int) → HOk P w H s₁.heap → (∀ b, H b ≠ none → b = a) → (H a ≠ none → K.lookup a = none) →
      codeAny (model P w) callerA (.call (.ref fa) ⟨[.ref a], []⟩) (fun r s' => r = .ok (.ret (.bool true)) ∧ OldK s₁.heap s'.heap ∧ s'.os = s₁.os ∧ AllBare s'.gens) s₁ := by
    intro H hO hS hok hA hK
    have stay : ∀ {c : Addr} {o : Obj}, s₁.heap.get? c = some o → H c = none → (hidT s₁.heap H).get? c = some o := fun e q => hidT_get e q
    have free : ∀ {c : Addr} {o : Obj} {es : Array DictEntry} {ep : Nat}, s₁.heap.get? c = some o → o.data = .dict es ep → H c = none := fun {c o es ep} e d => by
      cases q : H c with
      | none => rfl
      | some u =>
        exfalso
        have ec : c = a := hA c (by rw [q]; simp)
        rw [ec, ha] at e
        cases e
        cases (show Data.seq vs.toArray _ = Data.dict es ep from d)
    have nsK : ∀ {c : Addr} {m : Str → Option Value}, s₁.heap.Ns c m → (hidT s₁.heap H).Ns c m := fun {c m} ⟨o, es, ep, e, d, r⟩ => ⟨o, es, ep, stay e (free e d), d, r⟩
    have kb : K.In (hidT s₁.heap H) := fun c o e => stay (KX c o e) (by
      cases q : H c with
      | none => rfl
      | some u =>
        exfalso
        have ec : c = a := hA c (by rw [q]; simp)
        rw [ec] at e q
        rw [hK (by rw [q]; simp)] at e
        cases e)
    obtain ⟨mc, l1, l2⟩ := hlim
    have e0 : Env0 P w K mg (hidT s₁.heap H) callerA [] s₁ H := ⟨rfl, ⟨kb, nsK hns, ⟨mb, nsK hb, hbb⟩, ⟨mc, nsK l1, l2⟩⟩, fun c o e => of_hidT e, Nat.le_of_eq (hidT_size _ _), trivial, fun c m => absurd (show c ∈ ([] : List Addr) from m) (by simp), hok, .of_eq hg⟩
    refine codeAny_mono (key _ kb (nsK hns) H hO hS e0) fun r s2 h => ?_
    cases r with
    | error e => exact absurd h (by
        rintro ⟨_, _, _, _, _, _, _, _, _, _, _, _, z⟩
        exact z)
    | ok fl =>
      cases fl with
      | next => exact h.elim
      | brk => exact h.elim
      | cont => exact h.elim
      | ret u =>
        obtain ⟨v, H', os, bare, un, hok', r', q⟩ := h
        have q2 : v = .bl true := q
        subst q2
        cases (show u = Value.bool true from r')
        refine ⟨rfl, OldK.of_keep fun c o e => ?_, os, bare⟩
        cases q : H c with
        | none => exact un.keep c o e q (fun z => absurd (show c ∈ ([] : List Addr) from z) (by simp)) (by simp)
        | some u =>
          rcases hO c with z | ⟨ob, xs, z⟩
          · rw [q] at z; cases z
          · obtain ⟨e1, _⟩ := hok c _ z
            obtain ⟨e2, _⟩ := hok' c _ (un.frzs c ob _ z)
            rw [e] at e1
            cases e1
            exact e2
  cases hk : K.lookup a with
  | some o =>
    have e := KX a o hk
    rw [ha] at e
    cases e
    exact core (fun _ => none) (fun _ => .inl rfl) (.inr ⟨_, vs.toArray, _, hk, rfl, rfl, rfl, by rw [List.size_toArray, lenV]; exact Nat.le_trans hl (by decide), by simpa using rv⟩) (fun c u z => by cases (show (none : Option HO) = some u from z)) (fun c z => absurd rfl z) fun z => absurd rfl z
  | none =>
    have at_ : ∀ c, (if c = a then some (HO.frz { cls := .type "list", data := .seq vs.toArray } (.lst (ns.map V.int))) else none) ≠ none → c = a := fun c z => by
      by_cases e : c = a
      · exact e
      · exact absurd (if_neg e) z
    refine core (fun c => if c = a then some (.frz { cls := .type "list", data := .seq vs.toArray } (.lst (ns.map V.int))) else none) (fun c => ?_) (.inl (.inr ⟨{ cls := .type "list", data := .seq vs.toArray }, if_pos rfl⟩)) (fun c u z => ?_) at_ fun _ => hk
    · by_cases e : c = a
      · exact .inr ⟨_, _, if_pos e⟩
      · exact .inl (if_neg e)
    · have e : c = a := at_ c (by
        have z' : (if c = a then some (HO.frz { cls := .type "list", data := .seq vs.toArray } (.lst (ns.map V.int))) else none) = some u := z
        rw [z']
        simp)
      have z' := (if_pos e).symm.trans z
      cases z'
      rw [e]
      exact ⟨ha, by rw [List.length_map]; exact Nat.le_trans hl (by decide), vs, _, rv, ha⟩
theorem law_walk {l : PySem.W.OpenLaw} {lev : Nat} {q : Program} {loose : List Str} {XP : (Str → Option Value) → Heap → Prop} {YP : World → Heap → Prop} {d : DefRec} {BI : List V → Prop} {x : Str} (hn : l.most = some 63) (hdf : d.params.defaults = []) (hr : Room lev callerA)
    (F : ∀ (w : World) (mg : Str → Option Value) (fa : Addr) (h : Heap), YP w h → h.Ns mainGlobals mg → mg d.name = some (.ref fa) →
      ∃ (K : Fg) (fd : FuncData), K.In h ∧ (∀ (s : Shared) (u : Value), BindsTo s fd ⟨[u], []⟩ [(x, u)]) ∧ ∀ base : Heap, K.In base → base.Ns mainGlobals mg → FnG l.prog w K mg base lev fa fd [x] (pSp K BI [false] 0 spLaw)) :
    PySem.W.WalkO q loose XP YP l.row.toRowW d [] (fun f vs => PySem.call f vs) := by
  refine Att.attach_call hn hdf fun w s₀ s₁ mg mb fa o pm cd doc a vs ns G Y ho hd hcd hmg hobj hints hlen hg => ?_
  obtain ⟨K, fd, KX, hb, hF⟩ := F w mg fa _ Y G.T.g hmg
  exact law_end KX G.T.g G.T.b G.T.builtins G.T.nolimit hg hobj hints hlen hr hF hb
end N
end
section
set_option Elab.async false
set_option linter.all false
set_option autoImplicit false
set_option maxRecDepth 100000
/-! N11: a < b < c < d; {}; its repr. -/
namespace N
open PySem PySem.Spec PyProof.Rows L2
section
variable {X : Cx} {E : En} {lv : Nat}
def vChain3 (C C' C'' : Int → Int → Bool) (ta tb tc td : VT) : VT := fun env Q => ta env fun x => tb env fun y => match x, y with
  | .int i, .int j => (C i j = true → tc env fun z => match z with
      | .int k => (C' j k = true → td env fun u => match u with
        | .int l => Q (.bl (C'' k l))
        | _ => False) ∧ (C' j k = false → Q (.bl false))
      | _ => False) ∧ (C i j = false → Q (.bl false))
  | _, _ => False
def tChain3 (C C' C'' : Int → Int → Bool) (ta tb tc td : TE) : TE := fun σ H Q => ta σ H fun x H1 => tb σ H1 fun y H2 => ∃ i j, x = .int i ∧ y = .int j ∧
  (if C i j = true then tc σ H2 fun z H3 => ∃ k, z = .int k ∧ (if C' j k = true then td σ H3 fun u H4 => ∃ l, u = .int l ∧ Q (.bl (C'' k l)) H4 else Q (.bl false) H3) else Q (.bl false) H2)
theorem chain3_imp {K : Fg} {C C' C'' : Int → Int → Bool} {ta tb tc td : VT} : ∀ σ H Q, lE K E 0 (vChain3 C C' C'' ta tb tc td) σ H Q → tChain3 C C' C'' (lE K E 0 ta) (lE K E 0 tb) (lE K E 0 tc) (lE K E 0 td) σ H Q := by
  rintro σ H Q ⟨F, b, env, ex, Qd, R, q, k⟩
  refine ⟨F, b, env, ex, _, R, q, fun dx x H1 F1 as hx rx => ?_⟩
  obtain ⟨rfl, px⟩ := rx.ow
  have R1 := R.res rx
  refine ⟨F1, b, env, _, _, R1, hx, fun dy y H2 F2 bs hy ry => ?_⟩
  obtain ⟨rfl, py⟩ := ry.ow
  have R2 := R1.res ry
  cases dx <;> try exact hy.elim
  rename_i i
  cases dy <;> try exact hy.elim
  rename_i j
  simp only [Rp] at px py
  subst px
  subst py
  refine ⟨i, j, rfl, rfl, ?_⟩
  cases hc : C i j with
  | false => exact ite_ff (k _ _ _ _ [] (hy.2 hc) ((rx.trans ry).trans (Res.scal ry.le ry.hb (by simp only [Rp]))))
  | true =>
    refine ite_tt ?_
    refine ⟨F2, b, env, _, _, R2, hy.1 hc, fun dz z H3 F3 cs hz rz => ?_⟩
    obtain ⟨rfl, pz⟩ := rz.ow
    have R3 := R2.res rz
    cases dz <;> try exact hz.elim
    rename_i l
    simp only [Rp] at pz
    subst pz
    refine ⟨l, rfl, ?_⟩
    cases hc2 : C' j l with
    | false => exact ite_ff (k _ _ _ _ [] (hz.2 hc2) (((rx.trans ry).trans rz).trans (Res.scal rz.le rz.hb (by simp only [Rp]))))
    | true =>
      refine ite_tt ?_
      refine ⟨F3, b, env, _, _, R3, hz.1 hc2, fun du u H4 F4 ds hu ru => ?_⟩
      obtain ⟨rfl, pu⟩ := ru.ow
      cases du <;> try exact hu.elim
      rename_i m
      simp only [Rp] at pu
      subst pu
      exact ⟨m, rfl, k _ _ _ _ [] hu ((((rx.trans ry).trans rz).trans ru).trans (Res.scal ru.le ru.hb (by simp only [Rp])))⟩
theorem pe_chain3 {op op' op'' : CmpOp} {C C' C'' : Int → Int → Bool} {a b c d : Expr} {ta tb tc td : TE} {pos : Pos} (ho : OpR X (compareOp op) (rI0 fun i j => .bl (C i j))) (ho' : OpR X (compareOp op') (rI0 fun i j => .bl (C' i j))) (ho'' : OpR X (compareOp op'') (rI0 fun i j => .bl (C'' i j)))
    (ha : PE X a ta) (hb : PE X b tb) (hc : PE X c tc) (hd : PE X d td) (hm : lastMarks [op, op', op''] [b, c, d] = false) : PE X (.Compare a [op, op', op''] [b, c, d] pos) (tChain3 C C' C'' ta tb tc td) := by
  refine ⟨fun pins s σ H Q I h => ?_⟩
  refine Compare_chain (thn (ha.run pins s σ H _ I h) fun v s1 ⟨x, H1, I1, r1, q1⟩ => chain_link (thn (hb.run pins s1 σ H1 _ I1 q1) fun u s2 ⟨y, H2, I2, r2, i, j, ex, ey, q2⟩ =>
    thn (ho pins s2 σ H2 x y v u (fun z H => z = .bl (C i j) ∧ H = H2) I2 r1 r2 ⟨i, j, ex, ey, rfl, rfl⟩) fun e s3 ⟨z, H3, I3, r3, e3, eh⟩ => ?_)) hm
  subst e3 eh
  cases r3
  refine wpAny_truthy_bool ?_
  cases hC : C i j with
  | false =>
    rw [hC, if_neg (by decide)] at q2
    exact ite_ff ⟨.bl false, _, I3, rfl, q2⟩
  | true =>
    rw [hC, if_pos rfl] at q2
    refine ite_tt (chain_link (thn (hc.run pins s3 σ _ _ I3 q2) fun w' s4 ⟨z', H4, I4, r4, k, ez, q4⟩ =>
      thn (ho' pins s4 σ H4 y z' u w' (fun z H => z = .bl (C' j k) ∧ H = H4) I4 r2 r4 ⟨j, k, ey, ez, rfl, rfl⟩) fun e s5 ⟨z5, H5, I5, r5, e5, eh⟩ => ?_))
    subst e5 eh
    cases r5
    refine wpAny_truthy_bool ?_
    cases hC2 : C' j k with
    | false =>
      rw [hC2, if_neg (by decide)] at q4
      exact ite_ff ⟨.bl false, _, I5, rfl, q4⟩
    | true =>
      rw [hC2, if_pos rfl] at q4
      exact ite_tt (chain_last (thn (hd.run pins s5 σ _ _ I5 q4) fun w2 s6 ⟨z2, H6, I6, r6, l, e2, q6⟩ => ho'' pins s6 σ H6 z' z2 w' w2 Q I6 r4 r6 ⟨k, l, ez, e2, q6⟩))
theorem pt_chain3 {op op' op'' : CmpOp} {C C' C'' : Int → Int → Bool} {a b c d : Expr} {ta tb tc td : TE} {pos : Pos} (ho : OpR X (compareOp op) (rI0 fun i j => .bl (C i j))) (ho' : OpR X (compareOp op') (rI0 fun i j => .bl (C' i j))) (ho'' : OpR X (compareOp op'') (rI0 fun i j => .bl (C'' i j)))
    (ha : PE X a ta) (hb : PE X b tb) (hc : PE X c tc) (hd : PE X d td) (hm : lastMarks [op, op', op''] [b, c, d] = false) : PT X (.Compare a [op, op', op''] [b, c, d] pos) (tTest (tChain3 C C' C'' ta tb tc td)) := by
  refine ⟨fun pins s σ H Q I h => ?_⟩
  refine isTrue_chain (thn (ha.run pins s σ H _ I h) fun v s1 ⟨x, H1, I1, r1, q1⟩ => test_link (thn (hb.run pins s1 σ H1 _ I1 q1) fun u s2 ⟨y, H2, I2, r2, i, j, ex, ey, q2⟩ =>
    thn (ho pins s2 σ H2 x y v u (fun z H => z = .bl (C i j) ∧ H = H2) I2 r1 r2 ⟨i, j, ex, ey, rfl, rfl⟩) fun e s3 ⟨z, H3, I3, r3, e3, eh⟩ => ?_)) hm
  subst e3 eh
  cases r3
  refine wpAny_truthy_bool ?_
  cases hC : C i j with
  | false =>
    rw [hC, if_neg (by decide)] at q2
    obtain ⟨k', e', q'⟩ := q2
    cases e'
    exact ite_ff ⟨_, I3, q'⟩
  | true =>
    rw [hC, if_pos rfl] at q2
    refine ite_tt (test_link (thn (hc.run pins s3 σ _ _ I3 q2) fun w' s4 ⟨z', H4, I4, r4, k, ez, q4⟩ =>
      thn (ho' pins s4 σ H4 y z' u w' (fun z H => z = .bl (C' j k) ∧ H = H4) I4 r2 r4 ⟨j, k, ey, ez, rfl, rfl⟩) fun e s5 ⟨z5, H5, I5, r5, e5, eh⟩ => ?_))
    subst e5 eh
    cases r5
    refine wpAny_truthy_bool ?_
    cases hC2 : C' j k with
    | false =>
      rw [hC2, if_neg (by decide)] at q4
      obtain ⟨k', e', q'⟩ := q4
      cases e'
      exact ite_ff ⟨_, I5, q'⟩
    | true =>
      rw [hC2, if_pos rfl] at q4
      refine ite_tt (test_last (thn (hd.run pins s5 σ _ _ I5 q4) fun w2 s6 ⟨z2, H6, I6, r6, l, e2, k2, e3, q6⟩ =>
        thn (ho'' pins s6 σ H6 z' z2 w' w2 (fun z H => z = .bl (C'' k l) ∧ H = H6) I6 r4 r6 ⟨k, l, ez, e2, rfl, rfl⟩) fun e s7 ⟨z7, H7, I7, r7, e7, eh⟩ => ?_))
      subst e7 eh
      cases r7
      cases e3
      exact wpAny_truthy_bool ⟨_, I7, q6⟩
theorem ve_chain3 {op op' op'' : CmpOp} {C C' C'' : Int → Int → Bool} {a b c d : Expr} {ta tb tc td : VT} {pos : Pos} (ho : OpR X (compareOp op) (rI0 fun i j => .bl (C i j))) (ho' : OpR X (compareOp op') (rI0 fun i j => .bl (C' i j))) (ho'' : OpR X (compareOp op'') (rI0 fun i j => .bl (C'' i j))) (ha : VE X E 0 a ta) (hb : VE X E 0 b tb) (hc : VE X E 0 c tc) (hd : VE X E 0 d td)
    (hm : lastMarks [op, op', op''] [b, c, d] = false := by with_unfolding_all rfl) : VE X E 0 (.Compare a [op, op', op''] [b, c, d] pos) (vChain3 C C' C'' ta tb tc td) := PEimp (pe_chain3 ho ho' ho'' ha hb hc hd hm) chain3_imp
theorem vt_chain3 {op op' op'' : CmpOp} {C C' C'' : Int → Int → Bool} {a b c d : Expr} {ta tb tc td : VT} {pos : Pos} (ho : OpR X (compareOp op) (rI0 fun i j => .bl (C i j))) (ho' : OpR X (compareOp op') (rI0 fun i j => .bl (C' i j))) (ho'' : OpR X (compareOp op'') (rI0 fun i j => .bl (C'' i j))) (ha : VE X E 0 a ta) (hb : VE X E 0 b tb) (hc : VE X E 0 c tc) (hd : VE X E 0 d td)
    (hm : lastMarks [op, op', op''] [b, c, d] = false := by with_unfolding_all rfl) : VTs X E (.Compare a [op, op', op''] [b, c, d] pos) (vTB (vChain3 C C' C'' ta tb tc td)) := PTimp (pt_chain3 ho ho' ho'' ha hb hc hd hm) fun σ H Q ⟨F, b, env, ex, Qd, R, q, k⟩ => chain3_imp (E := E) σ H _ ⟨F, b, env, ex, onB Qd, R, q, fun d v H' F' as hd r => by
    obtain ⟨c, rfl, hc⟩ := onB_elim hd
    obtain ⟨rfl, r'⟩ := r.bool
    exact ⟨c, rfl, k c H' F' hc r'⟩⟩
/-! ### {} -/
theorem ve_dic0 {pos : Pos} : VE X E 0 (.Dict [] [] pos) (vC (.dic [])) :=
  PEimp pe_dnewK fun σ H Q ⟨F, b, env, ex, Qd, R, q, k⟩ p hp => k _ _ _ _ _ q (Res.new R.le R.hbb hp (by
    simp only [Rp, RpKs]
    exact ⟨p, [], rfl, upd_same, rfl⟩))
/-- repr; of {}, too -/
@[irreducible] def gRepr2 : List D → (D → Prop) → Prop
  | [.dic []], Q => Q (.str "{}")
  | ds, Q => gRepr ds Q
theorem cs_repr2 {BI : List V → Prop} (gs : X.A.guards = some []) (hu : X.A.units + 64 < cLine) : CallS X BI (.builtin "repr") 0 gRepr2 := by
  intro pins s σ b H F vs us ds Qd Q I le hb r ps q k
  unfold gRepr2 at q
  split at q
  · obtain ⟨v, rfl, h⟩ := ps.one
    obtain ⟨u, rfl, rv⟩ := vals1 r
    simp only [Rp, RpKs] at h
    obtain ⟨a, gs', rfl, ha, rfl⟩ := h
    cases rv
    obtain ⟨_, hsm, vs2, kv, o, es, ep, ho, hx, hd, hk, hp, hn⟩ := dk_of I.hok (le _ _ ha)
    have e0 : vs2 = [] := by
      cases kv
      rfl
    subst e0
    have hes : es.toList = [] := by
      cases e : es.toList with
      | nil => rfl
      | cons x xs =>
        rw [e] at hp
        cases hp
    have rd : Reads s.heap (.ref a) (.dict []) (a :: [] ++ []) := .dict ho hx.1 hd (by rw [hes]; exact .nil) (by rw [hes]; exact .nil)
    refine repr_of_reads' rd rfl (fun _ m => ?_) gs (by show X.A.units + (_ + 1) < cLine; simp [PyData.depth, PyData.depthKv]; omega) (fun _ _ e => e) (fun h' t tk kp => ?_) (by decide +kernel)
    · simp at m
      rw [← m] at hsm
      simp at hsm
    · exact ⟨.str "{}", H, I.kept (h' := h') (t' := tk) kp, ⟨_, rfl⟩, k _ _ _ _ _ q (Res.scal le hb (by simp only [Rp]))⟩
  · exact cs_repr gs hu pins s σ b H F vs us ds Qd Q I le hb r ps q k
/-- == and !=: of two texts nothing more is asked -/
def oEq2 (x y : D) (Q : D → Prop) : Prop := match x, y with
  | .str a, .str b => Q (.bl (decide (a = b)))
  | x, y => oEq x y Q
def oNe2 (x y : D) (Q : D → Prop) : Prop := match x, y with
  | .str a, .str b => Q (.bl (!decide (a = b)))
  | x, y => oNe x y Q
theorem eqv_str (a b : Str) : PyData.eqv (.str a) (.str b) = decide (a = b) := by
  unfold PyData.eqv
  by_cases h : a = b <;> simp [h]
theorem eq2 {x y : D} {Q : D → Prop} (h : oEq x y Q) : oEq2 x y Q := by
  unfold oEq2
  split
  · have := h.2.2
    simp only [D.py, eqv_str] at this
    exact this
  · exact h
theorem ne2 {x y : D} {Q : D → Prop} (h : oNe x y Q) : oNe2 x y Q := by
  unfold oNe2
  split
  · have := h.2.2
    simp only [D.py, eqv_str] at this
    exact this
  · exact h
theorem ops_eq2 {BI : List V → Prop} (hu : X.A.units + 64 < cLine) : OpS X BI (compareOp .Eq) 0 oEq2 := by
  intro pins s σ b H F x y v u dx dy Qd Q I le hb rx ry px py h kk
  unfold oEq2 at h
  split at h
  · simp only [Rp] at px py
    subst px py
    exact op_eq pins s σ H _ _ v u Q I rx ry ⟨rfl, by
      rename_i a b
      have e : decide (V.str a = V.str b) = decide (a = b) := by
        by_cases z : a = b <;> simp [z]
      rw [e]
      exact kk (.bl (decide (a = b))) (.bl (decide (a = b))) H F [] h (Res.scal le hb (by simp only [Rp]))⟩
  · exact ops_eq hu pins s σ b H F x y v u _ _ Qd Q I le hb rx ry px py h kk
theorem ops_ne2 {BI : List V → Prop} (hu : X.A.units + 64 < cLine) : OpS X BI (compareOp .NotEq) 0 oNe2 := by
  intro pins s σ b H F x y v u dx dy Qd Q I le hb rx ry px py h kk
  unfold oNe2 at h
  split at h
  · simp only [Rp] at px py
    subst px py
    exact op_ne pins s σ H _ _ v u Q I rx ry ⟨rfl, by
      rename_i a b
      have e : decide (V.str a = V.str b) = decide (a = b) := by
        by_cases z : a = b <;> simp [z]
      rw [e]
      exact kk (.bl (!decide (a = b))) (.bl (!decide (a = b))) H F [] h (Res.scal le hb (by simp only [Rp]))⟩
  · exact ops_ne hu pins s σ b H F x y v u _ _ Qd Q I le hb rx ry px py h kk
end
end N
end
section
set_option Elab.async false
set_option linter.all false
set_option autoImplicit false
/-! M1: fractions as rationals; sizes. -/
namespace N
open PySem L2
/-- less than 2 ^ k in size -/
def Lg (k : Nat) (i : Int) : Prop := i.natAbs < 2 ^ k
theorem Lg.mono {j k : Nat} {i : Int} (h : Lg j i) (le : j ≤ k) : Lg k i := Nat.lt_of_lt_of_le h (Nat.pow_le_pow_right (by decide) le)
theorem Lg.mul {a b : Nat} {i j : Int} (x : Lg a i) (y : Lg b j) : Lg (a + b) (i * j) := wide_lt x y
theorem Lg.add {a b : Nat} {i j : Int} (x : Lg a i) (y : Lg b j) : Lg (max a b + 1) (i + j) := by
  have h1 : i.natAbs < 2 ^ max a b := Nat.lt_of_lt_of_le x (Nat.pow_le_pow_right (by decide) (Nat.le_max_left a b))
  have h2 : j.natAbs < 2 ^ max a b := Nat.lt_of_lt_of_le y (Nat.pow_le_pow_right (by decide) (Nat.le_max_right a b))
  unfold Lg
  rw [Nat.pow_succ]
  omega
theorem Lg.neg {a : Nat} {i : Int} (x : Lg a i) : Lg a (-i) := by
  unfold Lg
  rw [Int.natAbs_neg]
  exact x
theorem Lg.sub {a b : Nat} {i j : Int} (x : Lg a i) (y : Lg b j) : Lg (max a b + 1) (i - j) := by
  rw [Int.sub_eq_add_neg]
  exact x.add y.neg
theorem Lg.of_le {a : Nat} {i j : Int} (h : i.natAbs ≤ j.natAbs) (y : Lg a j) : Lg a i := Nat.lt_of_le_of_lt h y
theorem Lg.abs {a : Nat} {i : Int} (h : Lg a i) : Lg a (i.natAbs : Int) := by
  unfold Lg
  rw [Int.natAbs_natCast]
  exact h
theorem Lg.log {a : Nat} {i : Int} (h : Lg a i) (h0 : 0 < a) : i.natAbs.log2 < a := PySem.Flt.log2_lt_of h0 h
theorem Lg.mulW {a b : Nat} {i j : Int} (x : Lg a i) (y : Lg b j) (h : a + b + 2 ≤ 1000000) : CMulW i j :=
  wide_mul (x.mono (Nat.le_succ a)) (y.mono (Nat.le_succ b)) (Nat.succ_pos _) (Nat.succ_pos _) (by omega)
theorem Lg.py {b : Nat} {x y : Int} (h : Lg b y) (h9 : b ≤ 8999) : Builtin.divisionGoesByPylong x y = false :=
  PyProof.noPylong_of_log2 (Nat.lt_of_lt_of_le ((h.mono (Nat.le_succ b)).log (Nat.succ_pos _)) (by omega))
/-- both parts -/
structure Bd (k : Nat) (q : Rat) : Prop where
  n : Lg k q.num
  d : Lg k q.den
theorem Bd.mono {j k : Nat} {q : Rat} (h : Bd j q) (le : j ≤ k) : Bd k q := ⟨h.n.mono le, h.d.mono le⟩
/-- a fraction in lowest terms -/
def fr (q : Rat) : D := .tup [.int q.num, .int q.den]
theorem fr_inj {p q : Rat} (h : fr p = fr q) : p = q := by
  unfold fr at h
  injection h with h
  injection h with h1 h
  injection h with h2 _
  injection h1 with h1
  injection h2 with h2
  exact Rat.ext h1 (by exact_mod_cast h2)
theorem low_num (t : Int) (n : Nat) (hn : n ≠ 0) : (mkRat t n).num = t / ((t.natAbs.gcd n : Nat) : Int) := by
  rw [← Rat.normalize_eq_mkRat hn, Rat.normalize_eq]
theorem low_den (t : Int) (n : Nat) (hn : n ≠ 0) : (((mkRat t n).den : Nat) : Int) = (n : Int) / ((t.natAbs.gcd n : Nat) : Int) := by
  rw [← Rat.normalize_eq_mkRat hn, Rat.normalize_eq]
  exact Int.natCast_ediv n _
theorem Lg.low {k : Nat} {t : Int} (n : Nat) (hn : n ≠ 0) (h : Lg k t) (h2 : Lg k n) : Bd k (mkRat t n) := by
  constructor
  · rw [low_num t n hn]
    refine h.of_le ?_
    rw [Int.natAbs_ediv_of_dvd (Int.ofNat_dvd_left.mpr (Nat.gcd_dvd_left _ _))]
    exact Nat.div_le_self _ _
  · rw [low_den t n hn]
    refine h2.of_le ?_
    rw [← Int.natCast_ediv, Int.natAbs_natCast, Int.natAbs_natCast]
    exact Nat.div_le_self _ _
theorem den_pos (q : Rat) : (0 : Int) < q.den := by
  have := q.den_nz
  omega
theorem Bd.add {j k : Nat} {p q : Rat} (x : Bd j p) (y : Bd k q) : Bd (j + k + 1) (p + q) := by
  rw [Rat.add_def, Rat.normalize_eq_mkRat]
  refine Lg.low _ (Nat.mul_ne_zero p.den_nz q.den_nz) ?_ ?_
  · exact ((x.n.mul y.d).add (y.n.mul x.d)).mono (by omega)
  · rw [Int.natCast_mul]
    exact (x.d.mul y.d).mono (by omega)
theorem Bd.sub {j k : Nat} {p q : Rat} (x : Bd j p) (y : Bd k q) : Bd (j + k + 1) (p - q) := by
  rw [Rat.sub_def, Rat.normalize_eq_mkRat]
  refine Lg.low _ (Nat.mul_ne_zero p.den_nz q.den_nz) ?_ ?_
  · exact ((x.n.mul y.d).sub (y.n.mul x.d)).mono (by omega)
  · rw [Int.natCast_mul]
    exact (x.d.mul y.d).mono (by omega)
theorem Bd.mul {j k : Nat} {p q : Rat} (x : Bd j p) (y : Bd k q) : Bd (j + k) (p * q) := by
  rw [Rat.mul_def, Rat.normalize_eq_mkRat]
  refine Lg.low _ (Nat.mul_ne_zero p.den_nz q.den_nz) (x.n.mul y.n) ?_
  rw [Int.natCast_mul]
  exact x.d.mul y.d
theorem add_mk (p q : Rat) : mkRat (p.num * q.den + q.num * p.den) (p.den * q.den) = p + q := by
  rw [Rat.add_def, Rat.normalize_eq_mkRat]
theorem sub_mk (p q : Rat) : mkRat (p.num * q.den - q.num * p.den) (p.den * q.den) = p - q := by
  rw [Rat.sub_def, Rat.normalize_eq_mkRat]
theorem mul_mk (p q : Rat) : mkRat (p.num * q.num) (p.den * q.den) = p * q := by
  rw [Rat.mul_def, Rat.normalize_eq_mkRat]
theorem toNat_mul (p q : Rat) : ((p.den : Int) * (q.den : Int)).toNat = p.den * q.den := by
  rw [← Int.natCast_mul, Int.toNat_natCast]
/-- a rational's distance from nought -/
def rabs (q : Rat) : Rat := if q < 0 then -q else q
theorem num_lt {q : Rat} (h : q < 0) : q.num < 0 := by
  have := (Rat.lt_iff q 0).mp h
  simpa using this
theorem lt_num {q : Rat} (h : q.num < 0) : q < 0 := by
  refine (Rat.lt_iff q 0).mpr ?_
  simpa using h
theorem rabs_num (q : Rat) : (rabs q).num = if q.num < 0 then -q.num else q.num := by
  unfold rabs
  by_cases h : q < 0
  · rw [if_pos h, if_pos (num_lt h)]
    rfl
  · rw [if_neg h, if_neg (fun z => h (lt_num z))]
theorem rabs_den (q : Rat) : (rabs q).den = q.den := by
  unfold rabs
  split <;> rfl
theorem Bd.abs {k : Nat} {q : Rat} (x : Bd k q) : Bd k (rabs q) := by
  constructor
  · rw [rabs_num]
    split
    · exact x.n.neg
    · exact x.n
  · rw [rabs_den]
    exact x.d
theorem fr_sh (q : Rat) {n : Nat} (h : 0 < n := by decide) : (fr q).sh n := by
  cases n with
  | zero => exact absurd h (Nat.lt_irrefl 0)
  | succ n => simp only [fr, D.sh, D.shs, and_self]
theorem fr_eqv (p q : Rat) : PyData.eqv (fr p).py (fr q).py = decide (p = q) := by
  simp only [fr, D.py, D.pys, PyData.eqv, PyData.eqvAll, Bool.and_true]
  by_cases h : p = q
  · subst h
    simp
  · rw [decide_eq_false h]
    by_cases h1 : p.num = q.num
    · have h2 : p.den ≠ q.den := fun e => h (Rat.ext h1 e)
      have h3 : ((p.den : Int) == (q.den : Int)) = false := beq_eq_false_iff_ne.mpr (by exact_mod_cast h2)
      rw [h3, Bool.and_false]
    · have h3 : (p.num == q.num) = false := beq_eq_false_iff_ne.mpr h1
      rw [h3, Bool.false_and]
theorem under_lt (p q : Rat) : decide (p.num * q.den < q.num * p.den) = decide (p < q) := by
  by_cases h : p < q
  · rw [decide_eq_true h, decide_eq_true ((Rat.lt_iff p q).mp h)]
  · rw [decide_eq_false h, decide_eq_false fun z => h ((Rat.lt_iff p q).mpr z)]
end N
namespace N
open PySem L2
/-! ### kinds -/
def dInt : D → Bool
  | .int _ => true
  | _ => false
def dBl : D → Bool
  | .bl _ => true
  | _ => false
def dTup : D → Bool
  | .tup _ => true
  | _ => false
def dLst : D → Bool
  | .lst _ => true
  | .scr _ => true
  | _ => false
def dStr : D → Bool
  | .str _ => true
  | _ => false
/-- a thing of a kind that isinstance tells -/
def kinded (d : D) : Prop := ∃ t, tyn d = some t
theorem kit_int {d : D} {t : String} (h : tyn d = some t) : kitB t "int" = some (dInt d || dBl d) := by
  cases d <;> simp only [tyn, Option.some.injEq, reduceCtorEq] at h <;> subst h <;> simp only [dInt, dBl, dTup, dLst, dStr, Bool.or_self, Bool.or_true, Bool.true_or, Bool.false_or, Bool.or_false] <;> decide +kernel
theorem kit_bool {d : D} {t : String} (h : tyn d = some t) : kitB t "bool" = some (dBl d) := by
  cases d <;> simp only [tyn, Option.some.injEq, reduceCtorEq] at h <;> subst h <;> simp only [dInt, dBl, dTup, dLst, dStr, Bool.or_self, Bool.or_true, Bool.true_or, Bool.false_or, Bool.or_false] <;> decide +kernel
theorem kit_tuple {d : D} {t : String} (h : tyn d = some t) : kitB t "tuple" = some (dTup d) := by
  cases d <;> simp only [tyn, Option.some.injEq, reduceCtorEq] at h <;> subst h <;> simp only [dInt, dBl, dTup, dLst, dStr, Bool.or_self, Bool.or_true, Bool.true_or, Bool.false_or, Bool.or_false] <;> decide +kernel
theorem kit_list {d : D} {t : String} (h : tyn d = some t) : kitB t "list" = some (dLst d) := by
  cases d <;> simp only [tyn, Option.some.injEq, reduceCtorEq] at h <;> subst h <;> simp only [dInt, dBl, dTup, dLst, dStr, Bool.or_self, Bool.or_true, Bool.true_or, Bool.false_or, Bool.or_false] <;> decide +kernel
theorem kit_str {d : D} {t : String} (h : tyn d = some t) : kitB t "str" = some (dStr d) := by
  cases d <;> simp only [tyn, Option.some.injEq, reduceCtorEq] at h <;> subst h <;> simp only [dInt, dBl, dTup, dLst, dStr, Bool.or_self, Bool.or_true, Bool.true_or, Bool.false_or, Bool.or_false] <;> decide +kernel
/-- a fraction, as the program looks -/
def isFrac : D → Bool
  | .tup [.int t, .int b] => decide (0 < b) && decide (t.natAbs.gcd b.natAbs = 1)
  | _ => false
theorem isFrac_fr (q : Rat) : isFrac (fr q) = true := by
  simp only [isFrac, fr, Int.natAbs_natCast, Bool.and_eq_true, decide_eq_true_eq]
  exact ⟨den_pos q, q.reduced⟩
theorem isFrac_eq {d : D} (h : isFrac d = true) : ∃ q, d = fr q := by
  unfold isFrac at h
  split at h
  · rename_i t b
    simp only [Bool.and_eq_true, decide_eq_true_eq] at h
    refine ⟨⟨t, b.toNat, by omega, ?_⟩, ?_⟩
    · have : b.natAbs = b.toNat := by omega
      rw [← this]
      exact h.2
    · unfold fr
      dsimp only
      rw [Int.toNat_of_nonneg (by omega)]
  · cases h
end N
namespace N
open PySem L2
theorem mk_div (t : Int) (n : Nat) : mkRat t n = (t : Rat) / (((n : Int)) : Rat) := by
  rw [Rat.mkRat_eq_div]
  rfl
theorem rat_num_den (q : Rat) : q = (q.num : Rat) / ((q.den : Int) : Rat) := by
  have h : mkRat q.num q.den = q := Rat.mkRat_self q
  rw [mk_div] at h
  exact h.symm
theorem den_ne (q : Rat) : ((q.den : Int) : Rat) ≠ 0 := by
  have := den_pos q
  intro e
  have h2 : (q.den : Int) = 0 := by exact_mod_cast e
  omega
theorem div_frac (p q : Rat) (h : q.num ≠ 0) : ((p.num * q.den : Int) : Rat) / ((p.den * q.num : Int) : Rat) = p / q := by
  have h1 := den_ne p
  have h2 := den_ne q
  have h3 : (q.num : Rat) ≠ 0 := by
    intro e
    exact h (by exact_mod_cast e)
  have ep := rat_num_den p
  have eq := rat_num_den q
  rw [Rat.intCast_mul, Rat.intCast_mul]
  generalize (p.num : Rat) = a at *
  generalize ((p.den : Int) : Rat) = b at *
  generalize (q.num : Rat) = c at *
  generalize ((q.den : Int) : Rat) = d at *
  subst ep eq
  grind
theorem neg_div (t b : Int) : ((0 - t : Int) : Rat) / ((0 - b : Int) : Rat) = (t : Rat) / (b : Rat) := by
  rw [Int.zero_sub, Int.zero_sub, Rat.intCast_neg, Rat.intCast_neg]
  by_cases h : (b : Rat) = 0
  · rw [h]
    grind
  · grind
theorem num_ne {q : Rat} (h : q.num ≠ 0) : q ≠ 0 := fun e => h (by rw [e]; rfl)
theorem num_zero {q : Rat} (h : q.num = 0) : q = 0 := by
  rw [rat_num_den q, h]
  rw [Rat.div_def]
  exact Rat.zero_mul _
end N
namespace N
open PySem L2
theorem cutD_len {α : Type} (xs : List α) (lo hi : Option Int) : (cutD xs lo hi).length ≤ xs.length := by
  unfold cutD
  rw [List.length_take, List.length_drop]
  omega
theorem cutD_mem {α : Type} {xs : List α} {lo hi : Option Int} {x : α} (h : x ∈ cutD xs lo hi) : x ∈ xs := by
  unfold cutD at h
  exact List.mem_of_mem_drop (List.mem_of_mem_take h)
theorem first_int {ns : List Int} {lo hi : Option Int} : ∃ c, atI (cutD (ns.map D.int) lo hi ++ [D.int 0]) 0 = some (.int c) := by
  cases e : cutD (ns.map D.int) lo hi with
  | nil => exact ⟨0, rfl⟩
  | cons d r =>
    have : d ∈ ns.map D.int := cutD_mem (lo := lo) (hi := hi) (by rw [e]; exact List.mem_cons_self)
    obtain ⟨c, _, rfl⟩ := List.mem_map.mp this
    refine ⟨c, ?_⟩
    unfold atI ixN
    rw [if_pos (by decide), if_pos (by simp; omega)]
    rfl
theorem lg_lit {k : Nat} {i : Int} (h : decide (i.natAbs < 2 ^ k) = true) : Lg k i := of_decide_eq_true (p := i.natAbs < 2 ^ k) h
/-- a number between bounds -/
theorem lg_of {k : Nat} {i b : Int} (h0 : 0 ≤ i) (h1 : i ≤ b) (h : Lg k b) : Lg k i := h.of_le (by omega)
end N
end
section
set_option Elab.async false
set_option linter.all false
set_option autoImplicit false
/-! M2: shown texts: how long. -/
namespace N
open PySem L2
theorem shs_all {n : Nat} : ∀ {ds : List D}, (∀ d ∈ ds, d.sh n) → D.shs ds n
  | [], _ => by simp only [D.shs]
  | d :: ds, h => by
    simp only [D.shs]
    exact ⟨h d List.mem_cons_self, shs_all fun x m => h x (List.mem_cons_of_mem _ m)⟩
mutual
theorem D.sh.mono : ∀ {d : D} {n m : Nat}, d.sh n → n ≤ m → d.sh m
  | .non, _, _, _, _ => by simp only [D.sh]
  | .bl _, _, _, _, _ => by simp only [D.sh]
  | .int _, _, _, _, _ => by simp only [D.sh]
  | .str _, _, _, h, _ => by simp only [D.sh] at h ⊢; exact h
  | .lst xs, 0, _, h, _ => by simp only [D.sh] at h
  | .tup xs, 0, _, h, _ => by simp only [D.sh] at h
  | .lst xs, n + 1, 0, h, le => absurd le (by omega)
  | .tup xs, n + 1, 0, h, le => absurd le (by omega)
  | .lst xs, n + 1, m + 1, h, le => by
    simp only [D.sh] at h ⊢
    exact D.shs.mono h (by omega)
  | .tup xs, n + 1, m + 1, h, le => by
    simp only [D.sh] at h ⊢
    exact D.shs.mono h (by omega)
  | .ty _, _, _, h, _ => by simp only [D.sh] at h
  | .obj _ _, _, _, h, _ => by simp only [D.sh] at h
  | .dic _, _, _, h, _ => by simp only [D.sh] at h
  | .ref _, _, _, h, _ => by simp only [D.sh] at h
  | .scr _, _, _, h, _ => by simp only [D.sh] at h
  | .bag, _, _, h, _ => by simp only [D.sh] at h
theorem D.shs.mono : ∀ {ds : List D} {n m : Nat}, D.shs ds n → n ≤ m → D.shs ds m
  | [], _, _, _, _ => by simp only [D.shs]
  | d :: ds, _, _, h, le => by
    simp only [D.shs] at h ⊢
    exact ⟨D.sh.mono h.1 le, D.shs.mono h.2 le⟩
end
/-- of so many levels, its text so long at most -/
structure Shw (n w : Nat) (d : D) : Prop where
  sh : d.sh n
  sb : d.py.showable = true
  ln : d.py.shown.length ≤ w
theorem Shw.le {n m w v : Nat} {d : D} (h : Shw n w d) (l1 : n ≤ m) (l2 : w ≤ v) : Shw m v d := ⟨h.sh.mono l1, h.sb, Nat.le_trans h.ln l2⟩
theorem Shw.shw {n w : Nat} {d : D} (h : Shw n w d) (l1 : n ≤ 60 := by decide) (l2 : w ≤ sizeLine := by decide) : d.shw := ⟨h.sh.mono l1, h.sb, Nat.le_trans h.ln l2⟩
theorem shw_non : Shw 0 5 .non := ⟨by simp only [D.sh], rfl, by decide⟩
theorem shw_bl (b : Bool) : Shw 0 5 (.bl b) := ⟨by simp only [D.sh], rfl, by cases b <;> decide⟩
theorem shw_int {i : Int} (h : Lg 1900 i) : Shw 0 1921 (.int i) := by
  have h1 : i.natAbs.log2 < 1920 := Nat.lt_of_lt_of_le (h.log (by decide)) (by decide)
  refine ⟨by simp only [D.sh], by simp only [D.py, PyData.showable, decide_eq_true_eq]; exact h1, ?_⟩
  exact PyProof.Rows.int_text_len_1921 h1
theorem strOk_lt {x : Str} (h : PyData.strOk x = true) : ∀ c ∈ x.cps.toList, c < 16 ^ 8 := by
  have h1 : ∀ c ∈ x.cps.toList, c < 0x110000 := by
    intro c hcm
    have := (Array.all_eq_true_iff_forall_mem.mp h) c (Array.mem_toList_iff.mp hcm)
    simpa using this
  intro c hcm
  have h2 := h1 c hcm
  have e : (16 : Nat) ^ 8 = 4294967296 := by decide
  omega
theorem shw_str {x : Str} {k : Nat} (h : PyData.strOk x = true) (hl : x.length ≤ k) : Shw 0 (10 * k + 2) (.str x) := by
  refine ⟨by simp only [D.sh]; exact h, rfl, ?_⟩
  have := StrLaws.reprText_len x (strOk_lt h)
  show (reprText x).length ≤ _
  omega
theorem showableAll_of : ∀ {ds : List D}, (∀ d ∈ ds, d.py.showable = true) → PyData.showableAll (D.pys ds) = true
  | [], _ => rfl
  | d :: ds, h => by
    simp only [D.pys, PyData.showableAll, Bool.and_eq_true]
    exact ⟨h d List.mem_cons_self, showableAll_of fun x m => h x (List.mem_cons_of_mem _ m)⟩
theorem shownAll_sum {w : Nat} : ∀ {ds : List D}, (∀ d ∈ ds, d.py.shown.length ≤ w) → ((PyData.shownAll (D.pys ds)).map (·.length)).sum ≤ w * ds.length ∧ (PyData.shownAll (D.pys ds)).length = ds.length
  | [], _ => ⟨Nat.zero_le _, rfl⟩
  | d :: ds, h => by
    have h1 := h d List.mem_cons_self
    have h2 := shownAll_sum fun x m => h x (List.mem_cons_of_mem _ m)
    simp only [D.pys, PyData.shownAll, List.map_cons, List.sum_cons, List.length_cons, Nat.mul_add, Nat.mul_one]
    omega
theorem shw_lst {n w : Nat} {ds : List D} (h : ∀ d ∈ ds, Shw n w d) : Shw (n + 1) ((w + 2) * ds.length + 3) (.lst ds) := by
  refine ⟨by simp only [D.sh]; exact shs_all fun d m => (h d m).sh, by simp only [D.py, PyData.showable]; exact showableAll_of fun d m => (h d m).sb, ?_⟩
  simp only [D.py, PyData.shown]
  have h1 := listText_len_le (PyData.shownAll (D.pys ds))
  have h2 := shownAll_sum fun d m => (h d m).ln
  rw [Nat.add_mul]
  omega
theorem shw_tup {n w : Nat} {ds : List D} (h : ∀ d ∈ ds, Shw n w d) : Shw (n + 1) ((w + 2) * ds.length + 3) (.tup ds) := by
  refine ⟨by simp only [D.sh]; exact shs_all fun d m => (h d m).sh, by simp only [D.py, PyData.showable]; exact showableAll_of fun d m => (h d m).sb, ?_⟩
  simp only [D.py, PyData.shown]
  have h1 := tupleText_len_le (PyData.shownAll (D.pys ds))
  have h2 := shownAll_sum fun d m => (h d m).ln
  rw [Nat.add_mul]
  omega
theorem shw_fr {q : Rat} (h : Bd 1900 q) : Shw 1 3849 (fr q) := by
  refine (shw_tup (n := 0) (w := 1921) ?_).le (Nat.le_refl _) (by show (1921 + 2) * 2 + 3 ≤ 3849; decide)
  intro d m
  simp only [List.mem_cons, List.not_mem_nil, or_false] at m
  rcases m with rfl | rfl
  · exact shw_int h.n
  · exact shw_int h.d
/-- shown, or {} -/
def Shd (d : D) : Prop := d = .dic [] ∨ d.shw
/-- what repr tells of d -/
def rpr : D → Str
  | .dic [] => "{}"
  | d => d.py.shown
theorem gRepr2_of {d : D} {Q : D → Prop} (h : Shd d) (q : Q (.str (rpr d))) : gRepr2 [d] Q := by
  rcases h with rfl | h
  · unfold gRepr2
    exact q
  · have e : rpr d = d.py.shown := by
      unfold rpr
      split
      · have := h.1
        simp only [D.sh] at this
      · rfl
    rw [e] at q
    unfold gRepr2
    split
    · rename_i e2
      injection e2 with e2 _
      subst e2
      have := h.1
      simp only [D.sh] at this
    · exact ⟨h, q⟩
/-- all of a list -/
def allD {α : Type} (P : α → Prop) : List α → Prop
  | [] => True
  | d :: ds => P d ∧ allD P ds
theorem allD_mem {α : Type} {P : α → Prop} : ∀ {ds : List α}, allD P ds → ∀ d ∈ ds, P d
  | d :: ds, h, x, m => by
    rcases List.mem_cons.mp m with rfl | m
    · exact h.1
    · exact allD_mem h.2 x m
/-- no list, no tuple; can be shown -/
def Flat (d : D) : Prop := Shw 0 1921 d ∧ kinded d
theorem flat_int {i : Int} (h : Lg 1900 i) : Flat (.int i) := ⟨shw_int h, _, rfl⟩
theorem flat_bl {b : Bool} : Flat (.bl b) := ⟨(shw_bl b).le (Nat.le_refl _) (by decide), _, rfl⟩
theorem flat_non : Flat .non := ⟨shw_non.le (Nat.le_refl _) (by decide), _, rfl⟩
theorem flat_str {x : Str} (h : PyData.strOk x = true) (hl : x.length ≤ 100) : Flat (.str x) := ⟨(shw_str h hl).le (Nat.le_refl _) (by decide), _, rfl⟩
/-- a thing that can be asked and shown -/
structure Asked (d : D) : Prop where
  k : kinded d
  m : ∀ ds, d = .tup ds → ∀ e ∈ ds, kinded e
  s : Shd d
theorem Flat.asked {d : D} (h : Flat d) : Asked d := ⟨h.2, fun ds e => by
  subst e
  have := h.1.sh
  simp only [D.sh] at this, .inr h.1.shw⟩
theorem asked_tup {ds : List D} (h : allD Flat ds) (hl : ds.length ≤ 50) : Asked (.tup ds) := ⟨⟨_, rfl⟩, fun es e d m => by
    injection e with e
    subst e
    exact (allD_mem h d m).2, .inr ((shw_tup fun d m => (allD_mem h d m).1).shw (by decide) (by
    have : sizeLine = 16777216 := by decide
    rw [this]
    omega))⟩
theorem asked_lst {ds : List D} (h : allD Flat ds) (hl : ds.length ≤ 50) : Asked (.lst ds) := ⟨⟨_, rfl⟩, fun es e d m => (by cases e), .inr ((shw_lst fun d m => (allD_mem h d m).1).shw (by decide) (by
    have : sizeLine = 16777216 := by decide
    rw [this]
    omega))⟩
theorem asked_dic : Asked (.dic []) := ⟨⟨_, rfl⟩, fun es e d m => (by cases e), .inl rfl⟩
theorem atI_mem {α : Type} {xs : List α} {i : Int} (h0 : 0 ≤ i) (h1 : i < xs.length) : ∃ d ∈ xs, atI xs i = some d := by
  have hl : i.toNat < xs.length := by omega
  refine ⟨xs[i.toNat], List.getElem_mem hl, ?_⟩
  unfold atI ixN
  rw [if_pos h0, if_pos (by omega)]
  exact List.getElem?_eq_getElem hl
end N
end
set_option Elab.async false
set_option linter.all false
set_option maxRecDepth 100000
namespace L
open PySem PySem.Spec PyProof.Rows L2 N
def BD (ds : List D) : Prop := ∃ n m c, ds = [.int n, .int m, .bl c] ∧ 0 ≤ m ∧ m < 2147483647
abbrev BI := bagI BD
def topS (i : Nat) : Stmt := PySem.Challenge.pw_neartwins_k25_what_is_a_fade.main.body.getD i (.Pass ⟨0, 0, 0, 0⟩)
abbrev s_is_whole : Stmt := topS 3
abbrev s_divisor : Stmt := topS 4
abbrev s_is_fraction : Stmt := topS 5
abbrev s_is_short : Stmt := topS 8
abbrev s_is_fade : Stmt := topS 10
abbrev s__law_begun : Stmt := topS 12
abbrev s__law_take : Stmt := topS 13
abbrev s__law_whole : Stmt := topS 14
abbrev s__law_is_fade : Stmt := topS 15
abbrev s__law_odd : Stmt := topS 16
abbrev s_law : Stmt := topS 17
def d_is_whole : He.DefD := ⟨("is_whole", none), "is_whole", "is_whole", defArgs s_is_whole, defBody s_is_whole, defScope s_is_whole, [], []⟩
def d_divisor : He.DefD := ⟨("divisor", none), "divisor", "divisor", defArgs s_divisor, defBody s_divisor, defScope s_divisor, [], []⟩
def d_is_fraction : He.DefD := ⟨("is_fraction", none), "is_fraction", "is_fraction", defArgs s_is_fraction, defBody s_is_fraction, defScope s_is_fraction, [], []⟩
def d_is_short : He.DefD := ⟨("is_short", none), "is_short", "is_short", defArgs s_is_short, defBody s_is_short, defScope s_is_short, [], []⟩
def d_is_fade : He.DefD := ⟨("is_fade", none), "is_fade", "is_fade", defArgs s_is_fade, defBody s_is_fade, defScope s_is_fade, [], []⟩
def d__law_begun : He.DefD := ⟨("_law_begun", none), "_law_begun", "_law_begun", defArgs s__law_begun, defBody s__law_begun, defScope s__law_begun, [], []⟩
def d__law_take : He.DefD := ⟨("_law_take", none), "_law_take", "_law_take", defArgs s__law_take, defBody s__law_take, defScope s__law_take, [], []⟩
def d__law_whole : He.DefD := ⟨("_law_whole", none), "_law_whole", "_law_whole", defArgs s__law_whole, defBody s__law_whole, defScope s__law_whole, [], []⟩
def d__law_is_fade : He.DefD := ⟨("_law_is_fade", none), "_law_is_fade", "_law_is_fade", defArgs s__law_is_fade, defBody s__law_is_fade, defScope s__law_is_fade, [], []⟩
def d__law_odd : He.DefD := ⟨("_law_odd", none), "_law_odd", "_law_odd", defArgs s__law_odd, defBody s__law_odd, defScope s__law_odd, [], []⟩
def d_law : He.DefD := ⟨("law", none), "law", "law", defArgs s_law, defBody s_law, defScope s_law, [], []⟩
variable {Pg : Program} {wd : World} {K : Fg} {mg : Str → Option Value} {bs : Heap}
def fns : List He.DefD := [d_is_whole, d_divisor, d_is_fraction, d_is_short, d_is_fade, d__law_begun, d__law_take, d__law_whole, d__law_is_fade, d__law_odd, d_law]
def tps : Tps := [("NOUGHT", .tup [0, 1]), ("ONE", .tup [1, 1]), ("BEYOND", .int 1000)]
def fas : List He.Fa := [.glo "is_whole", .glo "divisor", .glo "is_fraction", .glo "is_short", .glo "is_fade", .glo "_law_begun", .glo "_law_take", .glo "_law_whole", .glo "_law_is_fade", .glo "_law_odd", .glo "law", .free "abs", .free "bool", .free "int", .free "isinstance", .free "len", .free "max", .free "min", .free "range", .free "repr", .free "tuple"]
theorem g_NOUGHT {K : Fg} {mg : Str → Option Value} (S : Stg fas fns tps K mg) : Gv K mg "NOUGHT" (.tup [.int 0, .int 1]) := S.const 0 rfl
theorem g_ONE {K : Fg} {mg : Str → Option Value} (S : Stg fas fns tps K mg) : Gv K mg "ONE" (.tup [.int 1, .int 1]) := S.const 1 rfl
theorem g_BEYOND {K : Fg} {mg : Str → Option Value} (S : Stg fas fns tps K mg) : Gv K mg "BEYOND" (.int 1000) := S.const 2 rfl

theorem z_abs {K : Fg} {mg : Str → Option Value} (S : Stg fas fns tps K mg) : mg "abs" = none := S.f "abs" (S.says.fact 11 rfl)
theorem z_bool {K : Fg} {mg : Str → Option Value} (S : Stg fas fns tps K mg) : mg "bool" = none := S.f "bool" (S.says.fact 12 rfl)
theorem z_int {K : Fg} {mg : Str → Option Value} (S : Stg fas fns tps K mg) : mg "int" = none := S.f "int" (S.says.fact 13 rfl)
theorem z_isinstance {K : Fg} {mg : Str → Option Value} (S : Stg fas fns tps K mg) : mg "isinstance" = none := S.f "isinstance" (S.says.fact 14 rfl)
theorem z_len {K : Fg} {mg : Str → Option Value} (S : Stg fas fns tps K mg) : mg "len" = none := S.f "len" (S.says.fact 15 rfl)
theorem z_max {K : Fg} {mg : Str → Option Value} (S : Stg fas fns tps K mg) : mg "max" = none := S.f "max" (S.says.fact 16 rfl)
theorem z_min {K : Fg} {mg : Str → Option Value} (S : Stg fas fns tps K mg) : mg "min" = none := S.f "min" (S.says.fact 17 rfl)
theorem z_range {K : Fg} {mg : Str → Option Value} (S : Stg fas fns tps K mg) : mg "range" = none := S.f "range" (S.says.fact 18 rfl)
theorem z_repr {K : Fg} {mg : Str → Option Value} (S : Stg fas fns tps K mg) : mg "repr" = none := S.f "repr" (S.says.fact 19 rfl)
theorem z_tuple {K : Fg} {mg : Str → Option Value} (S : Stg fas fns tps K mg) : mg "tuple" = none := S.f "tuple" (S.says.fact 20 rfl)
def spWhole : DSpec := sp1 fun a Q => kinded a ∧ Q (.bl (dInt a))
theorem sc_is_whole : FnScope ["thing"] ["thing"] (defScope s_is_whole) := ⟨rfl, rfl, rfl, by decide +kernel, rfl, by decide +kernel, by decide +kernel⟩
set_option maxHeartbeats 4000000 in
theorem fn_is_whole (S : Stg fas fns tps K mg) {fd : FuncData} (F : FunD K d_is_whole.name d_is_whole.qual d_is_whole.params d_is_whole.body d_is_whole.scope (d_is_whole.dvs K) (d_is_whole.kws K) (He.fAd K d_is_whole.at_) fd) : FnG Pg wd K mg bs 1 (He.fAd K d_is_whole.at_) fd ["thing"] (pSp K BI [false] 0 spWhole) := by
  have nd := (sc_is_whole).nd
  refine mkV F sc_is_whole (fun ds Q h => sp1_len h) (fun cdv A out sh H Ex H0 F0 b0 hr gs =>
    (vss_one (vs_ret (ve_and (ve_b (cs_isi) (z_isinstance S) PyProof.Rows.boot_isinstance (va_cons (ve_v 0) (va_cons (ve_tyN (z_int S) PyProof.Rows.boot_int) va_nil))) (ve_one (ve_not (ve_b (cs_isi) (z_isinstance S) PyProof.Rows.boot_isinstance (va_cons (ve_v 0) (va_cons (ve_tyN (z_bool S) PyProof.Rows.boot_bool) va_nil))))))))) (sp1_all ?_)
  rintro a Q ⟨⟨t, ht⟩, hQ⟩
  refine ⟨t, _, ht, kit_int ht, fun h => ⟨t, _, ht, kit_bool ht, ?_⟩, fun h => ?_⟩
  · cases a <;> first | exact hQ | (simp [dInt, dBl] at h; done)
  · cases a <;> first | exact hQ | (simp [dInt, dBl] at h; done)
theorem ok_is_whole (S : Stg fas fns tps K mg) : Kn Pg wd K mg bs BI 1 "is_whole" [false] 0 spWhole [] := by
  obtain ⟨fd, F⟩ := S.says.def_ 0 (d := d_is_whole) rfl
  exact ⟨_, fd, _, [], [], S.g "is_whole" (S.says.fact 0 rfl), F.kp, fn_is_whole S F, F.bindsN (fun _ _ _ _ _ _ us hl => match us, hl with | [_], _ => rfl), .nil, fun F => by simp only [RpAll]⟩
def spDivisor : DSpec := sp2 fun a b Q => ∃ x y : Int, a = .int x ∧ b = .int y ∧ 0 < y ∧ Q (.int (x.natAbs.gcd y.natAbs : Nat))
theorem gcd_turn {u v : Int} (hu : 0 < u) (hv : 0 < v) : (v % u).natAbs.gcd u.natAbs = u.natAbs.gcd v.natAbs := by
  rw [Int.natAbs_emod_of_nonneg (Int.le_of_lt hv)]
  exact (Nat.gcd_rec u.natAbs v.natAbs).symm
theorem sc_divisor : FnScope ["one", "other"] ["one", "other"] (defScope s_divisor) := ⟨rfl, rfl, rfl, by decide +kernel, rfl, by decide +kernel, by decide +kernel⟩
set_option maxHeartbeats 4000000 in
theorem fn_divisor (S : Stg fas fns tps K mg) {fd : FuncData} (F : FunD K d_divisor.name d_divisor.qual d_divisor.params d_divisor.body d_divisor.scope (d_divisor.dvs K) (d_divisor.kws K) (He.fAd K d_divisor.at_) fd) : FnG Pg wd K mg bs 1 (He.fAd K d_divisor.at_) fd ["one", "other"] (pSp K BI [false, false] 0 spDivisor) := by
  have nd := (sc_divisor).nd
  refine mkV F sc_divisor (fun ds Q h => sp2_len h) (fun cdv A out sh H Ex H0 F0 b0 hr gs =>
    (vss_cons (vs_set 0 0 (ve_b (cs_abs) (z_abs S) PyProof.Rows.boot_abs (va_cons (ve_v 0) va_nil)))
    (vss_cons (vs_while (vt_cmp ops_gt (ve_v 0) ve_int)
    (vss_one (vs_par 0 1 (va_cons (ve_op ops_mod (ve_v 1) (ve_v 0)) (va_cons (ve_v 0) va_nil)))) (passes_of rfl))
    (vss_one (vs_ret (ve_v 1)))))) (sp2_all ?_)
  rintro a b Q ⟨x, y, rfl, rfl, hy, hQ⟩
  refine ⟨fun m env => ∃ u v : Int, env = [.ow 0 (.int u), .ow 0 (.int v)] ∧ 0 ≤ u ∧ 0 < v ∧ u.natAbs.gcd v.natAbs = x.natAbs.gcd y.natAbs ∧ m = u.toNat, ⟨_, _, _, rfl, ?_, hy, ?_, rfl⟩, ?_⟩
  · split <;> omega
  · split
    · rw [Int.natAbs_neg]
    · rfl
  · rintro m env ⟨u, v, rfl, hu, hv, hg, rfl⟩
    refine ⟨fun h => ?_, fun h => ?_⟩
    · have h0 : 0 < u := of_decide_eq_true h
      refine ⟨h0, (v % u).toNat, ?_, v % u, u, rfl, Int.emod_nonneg _ (by omega), h0, (gcd_turn h0 hv).trans hg, rfl⟩
      have := Int.emod_lt_of_pos v h0
      omega
    · have h0 : ¬ 0 < u := of_decide_eq_false h
      obtain rfl : u = 0 := by omega
      have e : (v : Int) = ((x.natAbs.gcd y.natAbs : Nat) : Int) := by
        rw [← hg]
        simp
        omega
      show Q (.int v)
      rw [e]
      exact hQ
theorem ok_divisor (S : Stg fas fns tps K mg) : Kn Pg wd K mg bs BI 1 "divisor" [false, false] 0 spDivisor [] := by
  obtain ⟨fd, F⟩ := S.says.def_ 1 (d := d_divisor) rfl
  exact ⟨_, fd, _, [], [], S.g "divisor" (S.says.fact 1 rfl), F.kp, fn_divisor S F, F.bindsN (fun _ _ _ _ _ _ us hl => match us, hl with | [_, _], _ => rfl), .nil, fun F => by simp only [RpAll]⟩
def spIsFrac : DSpec := sp1 fun a Q => kinded a ∧ (∀ ds, a = .tup ds → ∀ d ∈ ds, kinded d) ∧ Q (.bl (isFrac a))
theorem sc_is_fraction : FnScope ["thing"] ["thing"] (defScope s_is_fraction) := ⟨rfl, rfl, rfl, by decide +kernel, rfl, by decide +kernel, by decide +kernel⟩
set_option maxHeartbeats 4000000 in
theorem fn_is_fraction (S : Stg fas fns tps K mg) {fd : FuncData} (F : FunD K d_is_fraction.name d_is_fraction.qual d_is_fraction.params d_is_fraction.body d_is_fraction.scope (d_is_fraction.dvs K) (d_is_fraction.kws K) (He.fAd K d_is_fraction.at_) fd) : FnG Pg wd K mg bs 2 (He.fAd K d_is_fraction.at_) fd ["thing"] (pSp K BI [false] 0 spIsFrac) := by
  have nd := (sc_is_fraction).nd
  refine mkV F sc_is_fraction (fun ds Q h => sp1_len h) (fun cdv A out sh H Ex H0 F0 b0 hr gs =>
    (vss_cons (vs_if (vt_w (vw_or (vt_not (vt_val (ve_b (cs_isi) (z_isinstance S) PyProof.Rows.boot_isinstance (va_cons (ve_v 0) (va_cons (ve_tyN (z_tuple S) PyProof.Rows.boot_tuple) va_nil))))) (vw_or (vt_cmp (ops_ne2 hr.units) (ve_b (cs_len) (z_len S) PySem.boot_len (va_cons (ve_v 0) va_nil)) ve_int) (vw_or (vt_not (vt_val (ve_call (ok_is_whole S) (hr.mono (by decide)) gs (va_cons (ve_ix (ve_v 0) ve_int) va_nil)))) (vw_one' (vt_not (vt_val (ve_call (ok_is_whole S) (hr.mono (by decide)) gs (va_cons (ve_ix (ve_v 0) ve_int) va_nil)))))))))
    (vss_one (vs_ret ve_bl))
    vss_nil)
    (vss_one (vs_ret (ve_and (ve_cmp ops_gt (ve_ix (ve_v 0) ve_int) ve_int) (ve_one (ve_cmp (ops_eq2 hr.units) (ve_call (ok_divisor S) (hr.mono (by decide)) gs (va_cons (ve_ix (ve_v 0) ve_int) (va_cons (ve_ix (ve_v 0) ve_int) va_nil))) ve_int))))))) (sp1_all ?_)
  rintro a Q ⟨⟨t, ht⟩, hk, hQ⟩
  refine ⟨t, _, ht, kit_tuple ht, fun h => ?_, fun h => ?_⟩
  · obtain ⟨ds, rfl⟩ : ∃ ds, a = .tup ds := by
      cases a <;> simp only [dTup, reduceCtorEq] at h
      exact ⟨_, rfl⟩
    refine ⟨trivial, trivial, fun h2 => ?_, fun h2 => ?_⟩
    · have e : isFrac (.tup ds) = false := by
        unfold isFrac
        split
        · rename_i e
          injection e with e
          subst e
          simp [D.py, PyData.eqv] at h2
        · rfl
      rw [e] at hQ
      exact hQ
    · have hl : ds.length = 2 := by
        have h3 : ((ds.length : Int) == 2) = true := by
          cases q : ((ds.length : Int) == 2) with
          | true => rfl
          | false =>
            exfalso
            have h4 : (!((ds.length : Int) == 2)) = false := h2
            rw [q] at h4
            cases h4
        have := eq_of_beq h3
        omega
      obtain ⟨x, y, rfl⟩ : ∃ x y, ds = [x, y] := by
        match ds, hl with
        | [x, y], _ => exact ⟨x, y, rfl⟩
      have kx := hk _ rfl x (by simp)
      have ky := hk _ rfl y (by simp)
      have no : ∀ {P : Prop}, isFrac (.tup [x, y]) = false → (Q (.bl (isFrac (.tup [x, y]))) → P) → (Q (.bl false) → P) → P := fun e _ k => k (e ▸ hQ)
      refine ⟨x, rfl, kx, fun h3 => ⟨y, rfl, ky, fun h4 => ?_, fun h4 => ?_⟩, fun h3 => ?_⟩
      · obtain ⟨u, rfl⟩ : ∃ u, x = .int u := by
          cases x <;> simp only [dInt, reduceCtorEq] at h3
          exact ⟨_, rfl⟩
        obtain ⟨v, rfl⟩ : ∃ v, y = .int v := by
          cases y <;> simp only [dInt, reduceCtorEq] at h4
          exact ⟨_, rfl⟩
        refine ⟨.int v, rfl, fun h5 => ⟨.int u, rfl, .int v, rfl, u, v, rfl, rfl, of_decide_eq_true h5, trivial, trivial, ?_⟩, fun h5 => ?_⟩
        · have e : isFrac (.tup [.int u, .int v]) = PyData.eqv (D.int (u.natAbs.gcd v.natAbs : Nat)).py (D.int 1).py := by
            show (decide (0 < v) && decide (u.natAbs.gcd v.natAbs = 1)) = (((u.natAbs.gcd v.natAbs : Nat) : Int) == 1)
            rw [h5, Bool.true_and]
            by_cases z : u.natAbs.gcd v.natAbs = 1
            · rw [decide_eq_true z, z]
              rfl
            · rw [decide_eq_false z]
              exact (beq_eq_false_iff_ne.mpr (by omega)).symm
          rw [e] at hQ
          exact hQ
        · have e : isFrac (.tup [.int u, .int v]) = false := by
            show (decide (0 < v) && decide (u.natAbs.gcd v.natAbs = 1)) = false
            rw [h5]
            rfl
          rw [e] at hQ
          exact hQ
      · have e : isFrac (.tup [x, y]) = false := by
          cases y <;> simp only [dInt, reduceCtorEq] at h4 <;> cases x <;> rfl
        rw [e] at hQ
        exact hQ
      · have e : isFrac (.tup [x, y]) = false := by
          cases x <;> simp only [dInt, reduceCtorEq] at h3 <;> rfl
        rw [e] at hQ
        exact hQ
  · have e : isFrac a = false := by
      cases a <;> simp only [dTup, reduceCtorEq] at h <;> rfl
    rw [e] at hQ
    exact hQ
theorem ok_is_fraction (S : Stg fas fns tps K mg) : Kn Pg wd K mg bs BI 2 "is_fraction" [false] 0 spIsFrac [] := by
  obtain ⟨fd, F⟩ := S.says.def_ 2 (d := d_is_fraction) rfl
  exact ⟨_, fd, _, [], [], S.g "is_fraction" (S.says.fact 2 rfl), F.kp, fn_is_fraction S F, F.bindsN (fun _ _ _ _ _ _ us hl => match us, hl with | [_], _ => rfl), .nil, fun F => by simp only [RpAll]⟩
def isPair : D → Bool
  | .tup [.int _, .int _] => true
  | _ => false
theorem pair_if {a : D} {e : N.Env} {Vd : VEnds} {t u : VST} (ha : kinded a) (hs : ∀ ds, a = .tup ds → ∀ d ∈ ds, kinded d) (h1 : isPair a = false → t Vd (.ow 0 a :: e)) (h2 : ∀ x y, a = .tup [.int x, .int y] → u Vd (.ow 0 a :: e)) :
    vIfS (vTOr (vTNot (vTB (vB gIsi (vCons (vV 0) (vCons (vC (D.ty "tuple")) vNil))))) (vTOr (vTB (vOp oNe2 (vB gLen (vCons (vV 0) vNil)) (vC (D.int 2)))) (vTOr (vTNot (vTB (vCall spWhole [] (vCons (vOp oIx (vV 0) (vC (D.int 0))) vNil)))) (vTNot (vTB (vCall spWhole [] (vCons (vOp oIx (vV 0) (vC (D.int 1))) vNil)))))))
      t u Vd (.ow 0 a :: e) := by
  obtain ⟨t, ht⟩ := ha
  refine ⟨t, _, ht, kit_tuple ht, fun h => ?_, fun h => ?_⟩
  · obtain ⟨ds, rfl⟩ : ∃ ds, a = .tup ds := by
      cases a <;> simp only [dTup, reduceCtorEq] at h
      exact ⟨_, rfl⟩
    refine ⟨trivial, trivial, fun h3 => h1 ?_, fun h3 => ?_⟩
    · unfold isPair
      split
      · rename_i e
        injection e with e
        subst e
        simp [D.py, PyData.eqv] at h3
      · rfl
    · have hl : ds.length = 2 := by
        have h4 : (!((ds.length : Int) == 2)) = false := h3
        cases q : ((ds.length : Int) == 2) with
        | true =>
          have := eq_of_beq q
          omega
        | false =>
          rw [q] at h4
          cases h4
      obtain ⟨x, y, rfl⟩ : ∃ x y, ds = [x, y] := by
        match ds, hl with
        | [x, y], _ => exact ⟨x, y, rfl⟩
      have kx := hs _ rfl x (by simp)
      have ky := hs _ rfl y (by simp)
      refine ⟨x, rfl, kx, fun k3 => ⟨y, rfl, ky, fun k4 => ?_, fun k4 => h1 ?_⟩, fun k3 => h1 ?_⟩
      · obtain ⟨u, rfl⟩ : ∃ u, x = .int u := by
          cases x <;> simp only [dInt, reduceCtorEq] at k3
          exact ⟨_, rfl⟩
        obtain ⟨v, rfl⟩ : ∃ v, y = .int v := by
          cases y <;> simp only [dInt, reduceCtorEq] at k4
          exact ⟨_, rfl⟩
        exact h2 u v rfl
      · cases x <;> cases y <;> first | rfl | simp [dInt] at k4
      · cases x <;> cases y <;> first | rfl | simp [dInt] at k3
  · refine h1 ?_
    cases a <;> first | rfl | simp [dTup] at h

def spBegun : DSpec := sp2 fun a b Q => ∃ (ns : List Int) (k : Int), a = .scr ns ∧ b = .int k ∧ ns.length ≤ 63 ∧ 0 ≤ k ∧ k < 64 ∧ ∀ n m c, 0 ≤ m → m < 2147483647 → Q (.lst [.int n, .int m, .bl c])
theorem sc__law_begun : FnScope ["_law_script", "_law_k", "_law_cell", "_law_number", "_law_mixed"] ["_law_script", "_law_k"] (defScope s__law_begun) := ⟨rfl, rfl, rfl, by decide +kernel, rfl, by decide +kernel, by decide +kernel⟩
set_option maxHeartbeats 4000000 in
theorem fn__law_begun (S : Stg fas fns tps K mg) {fd : FuncData} (F : FunD K d__law_begun.name d__law_begun.qual d__law_begun.params d__law_begun.body d__law_begun.scope (d__law_begun.dvs K) (d__law_begun.kws K) (He.fAd K d__law_begun.at_) fd) : FnG Pg wd K mg bs 1 (He.fAd K d__law_begun.at_) fd ["_law_script", "_law_k"] (pSp K BI [false, false] 1 spBegun) := by
  have nd := (sc__law_begun).nd
  refine mkV F sc__law_begun (fun ds Q h => sp2_len h) (fun cdv A out sh H Ex H0 F0 b0 hr gs =>
    (vss_cons (vs_set 2 0 (ve_ix (ve_op ops_add (sl_core (.inl rfl) (ve_v 0) (vo_some (ve_v 1)) (vo_some (ve_op ops_add (ve_v 1) ve_int))) (ve_lst (va_cons ve_int va_nil))) ve_int))
    (vss_cons (vs_set 3 0 (ve_b (cs_max rfl) (z_max S) PyProof.Rows.boot_max (va_cons (ve_v 2) (va_cons (ve_op ops_sub (ve_neg ve_int) (ve_v 2)) va_nil))))
    (vss_cons (vs_set 4 0 (ve_op ops_mod (ve_op ops_add (ve_op ops_add (ve_op ops_add (ve_op ops_mod (ve_v 3) ve_int) (ve_op ops_mul ve_int (ve_v 1))) (ve_op ops_mul (ve_op ops_mul ve_int (ve_v 1)) (ve_v 1))) ve_int) ve_int))
    (vss_one (vs_ret (ve_lst1 (va_cons (ve_v 3) (va_cons (ve_v 4) (va_cons (ve_cmp ops_ge (ve_v 3) (ve_op ops_pow ve_int ve_int)) va_nil)))))))))) (sp2_all ?_)
  rintro a b Q ⟨ns, k, rfl, rfl, hl, h0, h1, hQ⟩
  obtain ⟨c, hc⟩ := first_int (ns := ns) (lo := some k) (hi := some (k + 1))
  have hk : Lg 7 k := by
    show k.natAbs < 128
    omega
  have hs : (cutD (ns.map D.int) (some k) (some (k + 1))).length + 1 ≤ sizeLine := by
    have := cutD_len (ns.map D.int) (some k) (some (k + 1))
    rw [List.length_map] at this
    exact Nat.le_trans (Nat.add_le_add_right (Nat.le_trans this hl) 1) (by decide)
  have m1 : CMulW 7919 k := (lg_lit (k := 20) (by decide)).mulW hk (by decide)
  have m2 : CMulW 104729 k := (lg_lit (k := 20) (by decide)).mulW hk (by decide)
  have m3 : CMulW (104729 * k) k := ((lg_lit (k := 20) (by decide)).mul hk).mulW hk (by decide)
  refine ⟨(by show 1 ≤ sizeLine; decide), hs, _, hc, ?_⟩
  refine ⟨(by show (0 : Int) < _; decide), rfl, m1, rfl, m2, rfl, m3, (by show (0 : Int) < _; decide), ?_⟩
  refine ⟨⟨by decide, by decide, by decide⟩, (by show 3 ≤ sizeLine; decide), hQ _ _ _ (Int.emod_nonneg _ (by decide)) ?_⟩
  exact Int.lt_trans (Int.emod_lt_of_pos _ (by decide)) (by decide)
theorem ok__law_begun (S : Stg fas fns tps K mg) : Kn Pg wd K mg bs BI 1 "_law_begun" [false, false] 1 spBegun [] := by
  obtain ⟨fd, F⟩ := S.says.def_ 5 (d := d__law_begun) rfl
  exact ⟨_, fd, _, [], [], S.g "_law_begun" (S.says.fact 5 rfl), F.kp, fn__law_begun S F, F.bindsN (fun _ _ _ _ _ _ us hl => match us, hl with | [_, _], _ => rfl), .nil, fun F => by simp only [RpAll]⟩
def spTake : DSpec := sp2 fun a b Q => ∃ m : Int, a = .bag ∧ b = .int m ∧ 0 < m ∧ Lg 8000 m ∧ ∀ d, 0 ≤ d → d < m → Q (.int d)
theorem sc__law_take : FnScope ["_law_state", "_law_many", "_law_digit", "_law_made", "_law_turn"] ["_law_state", "_law_many"] (defScope s__law_take) := ⟨rfl, rfl, rfl, by decide +kernel, rfl, by decide +kernel, by decide +kernel⟩
set_option maxHeartbeats 4000000 in
theorem fn__law_take (S : Stg fas fns tps K mg) {fd : FuncData} (F : FunD K d__law_take.name d__law_take.qual d__law_take.params d__law_take.body d__law_take.scope (d__law_take.dvs K) (d__law_take.kws K) (He.fAd K d__law_take.at_) fd) : FnG Pg wd K mg bs 1 (He.fAd K d__law_take.at_) fd ["_law_state", "_law_many"] (pSp K BI [true, false] 0 spTake) := by
  have nd := (sc__law_take).nd
  refine mkV F sc__law_take (fun ds Q h => sp2_len h) (fun cdv A out sh H Ex H0 F0 b0 hr gs =>
    (vss_cons (vs_if (vt_val (ve_ixBag (BD := BD) 0 ve_int))
    (vss_cons (vs_set 2 0 (ve_op ops_mod (ve_ixBag (BD := BD) 0 ve_int) (ve_v 1)))
    (vss_cons (vs_storeBag (BD := BD) 0 (ve_op ops_div (ve_ixBag (BD := BD) 0 ve_int) (ve_v 1)) ve_int)
    (vss_cons (vs_storeBag (BD := BD) 0 (ve_cmp ops_gt (ve_ixBag (BD := BD) 0 ve_int) ve_int) ve_int)
    (vss_one (vs_ret (ve_v 2))))))
    vss_nil)
    (vss_cons (vs_set 3 0 ve_int)
    (vss_cons (vs_for (vi_r1 (va_cons (ve_op ops_add ve_int (ve_ty cs_int (z_int S) PyProof.Rows.boot_int (va_cons (ve_cmp ops_gt (ve_v 1) (ve_op ops_pow ve_int ve_int)) va_nil))) va_nil) (z_range S)) (vg_name 4)
    (vss_cons (vs_storeBag (BD := BD) 0 (ve_op ops_mod (ve_op ops_add (ve_op ops_mul (ve_ixBag (BD := BD) 0 ve_int) ve_int) ve_int) ve_int) ve_int)
    (vss_one (vs_set 3 0 (ve_op ops_add (ve_op ops_mul (ve_v 3) ve_int) (ve_op ops_mod (ve_op ops_mul (ve_ixBag (BD := BD) 0 ve_int) (ve_ixBag (BD := BD) 0 ve_int)) ve_int))))) (passes_of rfl))
    (vss_one (vs_ret (ve_op ops_mod (ve_op ops_div (ve_v 3) ve_int) (ve_v 1)))))))) (sp2_all ?_)
  rintro a b Q ⟨m, rfl, rfl, hm, hl, hQ⟩
  refine ⟨rfl, fun ds hB => ?_⟩
  obtain ⟨n, x, c, rfl, hx0, hx1⟩ := hB
  refine ⟨_, rfl, trivial, fun _ => ?_, fun _ => ?_⟩
  · refine ⟨rfl, fun ds hB => ?_⟩
    obtain ⟨n, x, c, rfl, hx0, hx1⟩ := hB
    refine ⟨_, rfl, trivial, hm, rfl, rfl, fun ds hB => ?_⟩
    obtain ⟨n2, x, c, rfl, hx0, hx1⟩ := hB
    refine ⟨_, rfl, trivial, ⟨hm, hl.py (by decide)⟩, trivial, fun ds hB => ?_, ?_⟩
    · obtain ⟨n3, x, c, rfl, hx0, hx1⟩ := hB
      exact ⟨0, rfl, _, _, _, rfl, hx0, hx1⟩
    · refine ⟨rfl, rfl, fun ds hB => ?_⟩
      obtain ⟨n4, x, c, rfl, hx0, hx1⟩ := hB
      refine ⟨_, rfl, trivial, trivial, fun ds hB => ?_, ?_⟩
      · obtain ⟨n3, x, c, rfl, hx0, hx1⟩ := hB
        exact ⟨2, rfl, _, _, _, rfl, hx0, hx1⟩
      · exact hQ _ (Int.emod_nonneg _ (by omega)) (Int.emod_lt_of_pos _ hm)
  · refine ⟨⟨by decide, by decide, by decide⟩, ?_⟩
    have hlen : ∀ c : Bool, (1 : Int) + (if c = true then 1 else 0) < 2 ^ 62 ∧ -(2 ^ 62) ≤ (1 : Int) + (if c = true then 1 else 0) ∧ (intsD 0 ((1 : Int) + (if c = true then 1 else 0)).toNat).length ≤ 2 := by
      intro c
      cases c <;> refine ⟨by decide, by decide, by decide⟩
    refine ⟨(hlen _).1, (hlen _).2.1, ?_⟩
    refine goF_ind (fun ds env => ds.length ≤ 2 ∧ ∃ x y v, env = [.bg, .ow 0 (.int m), x, .ow 0 (.int v), y] ∧ 0 ≤ v ∧ Lg (200 - 40 * ds.length) v) ?_ ?_ _ _ ⟨(hlen _).2.2, _, _, _, rfl, Int.le_refl _, ?_⟩
    · rintro d r env nx ⟨hl2, x, y, v, rfl, hv0, hv⟩ hn
      simp only [List.length_cons] at hl2 hv
      refine ⟨rfl, rfl, fun ds hB => ?_⟩
      obtain ⟨n, w, c, rfl, hx0, hx1⟩ := hB
      have hw : Lg 31 w := lg_of hx0 (Int.le_of_lt hx1) (lg_lit (by decide))
      refine ⟨_, rfl, trivial, rfl, hw.mulW (lg_lit (k := 20) (by decide)) (by decide), (by show (0 : Int) < _; decide), trivial, fun ds hB => ?_, ?_⟩
      · obtain ⟨n, w, c, rfl, hx0, hx1⟩ := hB
        exact ⟨1, rfl, _, _, _, rfl, Int.emod_nonneg _ (by decide), Int.emod_lt_of_pos _ (by decide)⟩
      · refine ⟨rfl, (hv.mono (Nat.sub_le _ _)).mulW (lg_lit (k := 32) (by decide)) (by decide), rfl, fun ds hB => ?_⟩
        obtain ⟨n, w, c, rfl, hx0, hx1⟩ := hB
        refine ⟨_, rfl, trivial, rfl, fun ds hB => ?_⟩
        obtain ⟨n, w', c, rfl, hy0, hy1⟩ := hB
        have hw : Lg 31 w := lg_of hx0 (Int.le_of_lt hx1) (lg_lit (by decide))
        have hw' : Lg 31 w' := lg_of hy0 (Int.le_of_lt hy1) (lg_lit (by decide))
        refine ⟨_, rfl, trivial, rfl, hw.mulW hw' (by decide), (by show (0 : Int) < _; decide), ?_⟩
        have hp : (0 : Int) ≤ v * 2147483587 := Int.mul_nonneg hv0 (by decide)
        have hq : (0 : Int) ≤ w * w' % 2147483587 := Int.emod_nonneg _ (by decide)
        refine hn _ ⟨by omega, _, _, _, rfl, by omega, ?_⟩
        exact ((hv.mul (lg_lit (k := 32) (by decide))).add (lg_of (k := 32) hq (Int.le_of_lt (Int.emod_lt_of_pos _ (by decide))) (lg_lit (by decide)))).mono (by omega)
    · rintro env ⟨hl2, x, y, v, rfl, hv0, hv⟩
      exact ⟨⟨by decide, (lg_lit (k := 10) (by decide)).py (by decide)⟩, hm, hQ _ (Int.emod_nonneg _ (by omega)) (Int.emod_lt_of_pos _ hm)⟩
    · exact lg_of (Int.le_refl 0) (Int.le_refl 0) (show (0 : Int).natAbs < _ from Nat.two_pow_pos _)
theorem ok__law_take (S : Stg fas fns tps K mg) : Kn Pg wd K mg bs BI 1 "_law_take" [true, false] 0 spTake [] := by
  obtain ⟨fd, F⟩ := S.says.def_ 6 (d := d__law_take) rfl
  exact ⟨_, fd, _, [], [], S.g "_law_take" (S.says.fact 6 rfl), F.kp, fn__law_take S F, F.bindsN (fun _ _ _ _ _ _ us hl => match us, hl with | [_, _], _ => rfl), .nil, fun F => by simp only [RpAll]⟩

def isShort (d : D) : Bool := isFrac d && match d with
  | .tup [.int t, .int b] => decide (0 ≤ t) && decide (t ≤ b) && decide (b < 1000)
  | _ => false
def isFade (d : D) : Bool := isFrac d && match d with
  | .tup [.int t, .int b] => decide (0 < t) && decide (t < b) && decide (b < 1000)
  | _ => false
def spShort : DSpec := sp1 fun a Q => kinded a ∧ (∀ ds, a = .tup ds → ∀ d ∈ ds, kinded d) ∧ Q (.bl (isShort a))
theorem isFrac_pair {a : D} (h : isFrac a = true) : ∃ x y, a = .tup [.int x, .int y] ∧ 0 < y ∧ x.natAbs.gcd y.natAbs = 1 := by
  obtain ⟨q, rfl⟩ := isFrac_eq h
  exact ⟨_, _, rfl, den_pos q, q.reduced⟩
theorem sc_is_short : FnScope ["thing"] ["thing"] (defScope s_is_short) := ⟨rfl, rfl, rfl, by decide +kernel, rfl, by decide +kernel, by decide +kernel⟩
set_option maxHeartbeats 4000000 in
theorem fn_is_short (S : Stg fas fns tps K mg) {fd : FuncData} (F : FunD K d_is_short.name d_is_short.qual d_is_short.params d_is_short.body d_is_short.scope (d_is_short.dvs K) (d_is_short.kws K) (He.fAd K d_is_short.at_) fd) : FnG Pg wd K mg bs 3 (He.fAd K d_is_short.at_) fd ["thing"] (pSp K BI [false] 0 spShort) := by
  have nd := (sc_is_short).nd
  refine mkV F sc_is_short (fun ds Q h => sp1_len h) (fun cdv A out sh H Ex H0 F0 b0 hr gs =>
    (vss_one (vs_ret (ve_and (ve_call (ok_is_fraction S) (hr.mono (by decide)) gs (va_cons (ve_v 0) va_nil)) (ve_one (ve_chain3 (C := cLe) (C' := cLe) (C'' := cLt) op_le op_le op_lt ve_int (ve_ix (ve_v 0) ve_int) (ve_ix (ve_v 0) ve_int) (ve_g (g_BEYOND S)))))))) (sp1_all ?_)
  rintro a Q ⟨ha, hs, hQ⟩
  refine ⟨ha, hs, fun h => ?_, fun h => ?_⟩
  · obtain ⟨x, y, rfl, h0, hg⟩ := isFrac_pair h
    have e : isShort (.tup [.int x, .int y]) = (cLe 0 x && cLe x y && cLt y 1000) := by
      unfold isShort
      rw [h]
      rfl
    rw [e] at hQ
    refine ⟨_, rfl, ?_, ?_⟩
    · intro h1
      refine ⟨_, rfl, fun h2 => ?_, fun h2 => ?_⟩
      · rw [h1, h2] at hQ
        exact hQ
      · rw [h1, h2] at hQ
        exact hQ
    · intro h1
      rw [h1] at hQ
      exact hQ
  · have e : isShort a = false := by
      unfold isShort
      rw [h]
      rfl
    rw [e] at hQ
    exact hQ
theorem ok_is_short (S : Stg fas fns tps K mg) : Kn Pg wd K mg bs BI 3 "is_short" [false] 0 spShort [] := by
  obtain ⟨fd, F⟩ := S.says.def_ 3 (d := d_is_short) rfl
  exact ⟨_, fd, _, [], [], S.g "is_short" (S.says.fact 3 rfl), F.kp, fn_is_short S F, F.bindsN (fun _ _ _ _ _ _ us hl => match us, hl with | [_], _ => rfl), .nil, fun F => by simp only [RpAll]⟩
def spFade : DSpec := sp1 fun a Q => kinded a ∧ (∀ ds, a = .tup ds → ∀ d ∈ ds, kinded d) ∧ Q (.bl (isFade a))
theorem sc_is_fade : FnScope ["thing"] ["thing"] (defScope s_is_fade) := ⟨rfl, rfl, rfl, by decide +kernel, rfl, by decide +kernel, by decide +kernel⟩
set_option maxHeartbeats 4000000 in
theorem fn_is_fade (S : Stg fas fns tps K mg) {fd : FuncData} (F : FunD K d_is_fade.name d_is_fade.qual d_is_fade.params d_is_fade.body d_is_fade.scope (d_is_fade.dvs K) (d_is_fade.kws K) (He.fAd K d_is_fade.at_) fd) : FnG Pg wd K mg bs 4 (He.fAd K d_is_fade.at_) fd ["thing"] (pSp K BI [false] 0 spFade) := by
  have nd := (sc_is_fade).nd
  refine mkV F sc_is_fade (fun ds Q h => sp1_len h) (fun cdv A out sh H Ex H0 F0 b0 hr gs =>
    (vss_one (vs_ret (ve_and (ve_call (ok_is_short S) (hr.mono (by decide)) gs (va_cons (ve_v 0) va_nil)) (ve_and (ve_cmp (ops_ne2 hr.units) (ve_v 0) (ve_g (g_NOUGHT S))) (ve_one (ve_cmp (ops_ne2 hr.units) (ve_v 0) (ve_g (g_ONE S))))))))) (sp1_all ?_)
  rintro a Q ⟨ha, hs, hQ⟩
  refine ⟨ha, hs, fun h => ?_, fun h => ?_⟩
  · have hf : isFrac a = true := by
      unfold isShort at h
      rw [Bool.and_eq_true] at h
      exact h.1
    obtain ⟨x, y, rfl, h0, hg⟩ := isFrac_pair hf
    have e : isFade (.tup [.int x, .int y]) = (!(x == 0 && y == 1) && !(x == 1 && y == 1)) := by
      unfold isShort at h
      unfold isFade
      rw [hf] at h ⊢
      simp only [Bool.true_and, Bool.and_eq_true, decide_eq_true_eq] at h
      simp only [Bool.true_and]
      by_cases hx : x = 0
      · subst hx
        have : y = 1 := by
          simp at hg
          omega
        subst this
        rfl
      · by_cases hy : x = y
        · subst hy
          have : x = 1 := by
            simp at hg
            omega
          subst this
          rfl
        · have e1 : decide (0 < x) = true := decide_eq_true (by omega)
          have e2 : decide (x < y) = true := decide_eq_true (by omega)
          have e3 : decide (y < 1000) = true := decide_eq_true h.2
          rw [e1, e2, e3]
          have e4 : (x == 0) = false := beq_eq_false_iff_ne.mpr hx
          rw [e4]
          by_cases h1 : x = 1
          · have e5 : (y == 1) = false := beq_eq_false_iff_ne.mpr (by omega)
            rw [e5]
            simp
          · have e5 : (x == 1) = false := beq_eq_false_iff_ne.mpr h1
            rw [e5]
            rfl
    have sh : ∀ x y : Int, (D.tup [.int x, .int y]).sh 60 := fun x y => by simp only [D.sh, D.shs, and_self]
    have ev : ∀ u v : Int, PyData.eqv (D.tup [.int x, .int y]).py (D.tup [.int u, .int v]).py = (x == u && y == v) := fun u v => by
      simp only [D.py, D.pys, PyData.eqv, PyData.eqvAll, Bool.and_true]
    rw [e] at hQ
    refine ⟨sh _ _, sh _ _, fun h1 => ?_, fun h1 => ?_⟩
    · rw [ev] at h1
      rw [h1] at hQ
      refine ⟨sh _ _, sh _ _, ?_⟩
      show Q (.bl (!(PyData.eqv (D.tup [.int x, .int y]).py (D.tup [.int 1, .int 1]).py)))
      rw [ev]
      exact hQ
    · rw [ev] at h1
      rw [h1] at hQ
      exact hQ
  · have e : isFade a = false := by
      unfold isShort at h
      unfold isFade
      cases hf : isFrac a with
      | false => rfl
      | true =>
        rw [hf] at h
        obtain ⟨x, y, rfl, h0, hg⟩ := isFrac_pair hf
        simp only [Bool.true_and, Bool.and_eq_false_iff, decide_eq_false_iff_not] at h ⊢
        omega
    rw [e] at hQ
    exact hQ
theorem ok_is_fade (S : Stg fas fns tps K mg) : Kn Pg wd K mg bs BI 4 "is_fade" [false] 0 spFade [] := by
  obtain ⟨fd, F⟩ := S.says.def_ 4 (d := d_is_fade) rfl
  exact ⟨_, fd, _, [], [], S.g "is_fade" (S.says.fact 4 rfl), F.kp, fn_is_fade S F, F.bindsN (fun _ _ _ _ _ _ us hl => match us, hl with | [_], _ => rfl), .nil, fun F => by simp only [RpAll]⟩
theorem sc__law_whole : FnScope ["_law_thing"] ["_law_thing"] (defScope s__law_whole) := ⟨rfl, rfl, rfl, by decide +kernel, rfl, by decide +kernel, by decide +kernel⟩
set_option maxHeartbeats 4000000 in
theorem fn__law_whole (S : Stg fas fns tps K mg) {fd : FuncData} (F : FunD K d__law_whole.name d__law_whole.qual d__law_whole.params d__law_whole.body d__law_whole.scope (d__law_whole.dvs K) (d__law_whole.kws K) (He.fAd K d__law_whole.at_) fd) : FnG Pg wd K mg bs 1 (He.fAd K d__law_whole.at_) fd ["_law_thing"] (pSp K BI [false] 0 spWhole) := by
  have nd := (sc__law_whole).nd
  refine mkV F sc__law_whole (fun ds Q h => sp1_len h) (fun cdv A out sh H Ex H0 F0 b0 hr gs =>
    (vss_one (vs_ret (ve_and (ve_b (cs_isi) (z_isinstance S) PyProof.Rows.boot_isinstance (va_cons (ve_v 0) (va_cons (ve_tyN (z_int S) PyProof.Rows.boot_int) va_nil))) (ve_one (ve_not (ve_b (cs_isi) (z_isinstance S) PyProof.Rows.boot_isinstance (va_cons (ve_v 0) (va_cons (ve_tyN (z_bool S) PyProof.Rows.boot_bool) va_nil))))))))) (sp1_all ?_)
  rintro a Q ⟨⟨t, ht⟩, hQ⟩
  refine ⟨t, _, ht, kit_int ht, fun h => ⟨t, _, ht, kit_bool ht, ?_⟩, fun h => ?_⟩
  · cases a <;> first | exact hQ | (simp [dInt, dBl] at h; done)
  · cases a <;> first | exact hQ | (simp [dInt, dBl] at h; done)
theorem ok__law_whole (S : Stg fas fns tps K mg) : Kn Pg wd K mg bs BI 1 "_law_whole" [false] 0 spWhole [] := by
  obtain ⟨fd, F⟩ := S.says.def_ 7 (d := d__law_whole) rfl
  exact ⟨_, fd, _, [], [], S.g "_law_whole" (S.says.fact 7 rfl), F.kp, fn__law_whole S F, F.bindsN (fun _ _ _ _ _ _ us hl => match us, hl with | [_], _ => rfl), .nil, fun F => by simp only [RpAll]⟩
theorem sc__law_is_fade : FnScope ["_law_thing", "_law_one", "_law_other"] ["_law_thing"] (defScope s__law_is_fade) := ⟨rfl, rfl, rfl, by decide +kernel, rfl, by decide +kernel, by decide +kernel⟩
set_option maxHeartbeats 4000000 in
theorem fn__law_is_fade (S : Stg fas fns tps K mg) {fd : FuncData} (F : FunD K d__law_is_fade.name d__law_is_fade.qual d__law_is_fade.params d__law_is_fade.body d__law_is_fade.scope (d__law_is_fade.dvs K) (d__law_is_fade.kws K) (He.fAd K d__law_is_fade.at_) fd) : FnG Pg wd K mg bs 2 (He.fAd K d__law_is_fade.at_) fd ["_law_thing"] (pSp K BI [false] 0 spFade) := by
  have nd := (sc__law_is_fade).nd
  refine mkV F sc__law_is_fade (fun ds Q h => sp1_len h) (fun cdv A out sh H Ex H0 F0 b0 hr gs =>
    (vss_cons (vs_if (vt_w (vw_or (vt_not (vt_val (ve_b (cs_isi) (z_isinstance S) PyProof.Rows.boot_isinstance (va_cons (ve_v 0) (va_cons (ve_tyN (z_tuple S) PyProof.Rows.boot_tuple) va_nil))))) (vw_or (vt_cmp (ops_ne2 hr.units) (ve_b (cs_len) (z_len S) PySem.boot_len (va_cons (ve_v 0) va_nil)) ve_int) (vw_or (vt_not (vt_val (ve_call (ok__law_whole S) (hr.mono (by decide)) gs (va_cons (ve_ix (ve_v 0) ve_int) va_nil)))) (vw_one' (vt_not (vt_val (ve_call (ok__law_whole S) (hr.mono (by decide)) gs (va_cons (ve_ix (ve_v 0) ve_int) va_nil)))))))))
    (vss_one (vs_ret ve_bl))
    vss_nil)
    (vss_cons (vs_if (vt_not (vt_chain3 (C := cLt) (C' := cLt) (C'' := cLt) op_lt op_lt op_lt ve_int (ve_ix (ve_v 0) ve_int) (ve_ix (ve_v 0) ve_int) ve_int))
    (vss_one (vs_ret ve_bl))
    vss_nil)
    (vss_cons (vs_asg (ve_v 0) (vg_tup (n := 2) (vgs_cons (vg_name 1) (vgs_cons (vg_name 2) vgs_nil))))
    (vss_cons (vs_while (vt_cmp ops_gt (ve_v 2) ve_int)
    (vss_one (vs_par 1 2 (va_cons (ve_v 2) (va_cons (ve_op ops_mod (ve_v 1) (ve_v 2)) va_nil)))) (passes_of rfl))
    (vss_one (vs_ret (ve_cmp (ops_eq2 hr.units) (ve_v 1) ve_int)))))))) (sp1_all ?_)
  rintro a Q ⟨ha, hs, hQ⟩
  refine pair_if ha hs (fun h => ?_) ?_
  · have e : isFade a = false := by
      unfold isFade
      cases hf : isFrac a with
      | false => rfl
      | true =>
        obtain ⟨x, y, rfl, h0, hg⟩ := isFrac_pair hf
        cases h
    rw [e] at hQ
    exact hQ
  · rintro x y rfl
    have no : ¬ (0 < x ∧ x < y ∧ y < 1000) → isFade (.tup [.int x, .int y]) = false := fun h => by
      unfold isFade
      cases hf : isFrac (.tup [.int x, .int y]) with
      | false => rfl
      | true =>
        simp only [Bool.true_and, Bool.and_eq_false_iff, decide_eq_false_iff_not]
        omega
    refine ⟨_, rfl, fun h1 => ⟨_, rfl, fun h2 => ?_, fun h2 => ?_⟩, fun h1 => ?_⟩
    · have g1 : 0 < x := of_decide_eq_true h1
      have g2 : x < y := of_decide_eq_true h2
      refine ⟨fun h3 => ?_, fun h3 => ?_⟩
      · have g3 : y < 1000 := of_decide_eq_true h3
        have e : isFade (.tup [.int x, .int y]) = decide (x.natAbs.gcd y.natAbs = 1) := by
          show ((decide (0 < y) && decide (x.natAbs.gcd y.natAbs = 1)) && (decide (0 < x) && decide (x < y) && decide (y < 1000))) = _
          rw [decide_eq_true (show 0 < y by omega), decide_eq_true g1, decide_eq_true g2, decide_eq_true g3]
          simp
        rw [e] at hQ
        refine ⟨rfl, rfl, fun m env => ∃ u v : Int, env = [.ow 0 (.tup [.int x, .int y]), .ow 0 (.int v), .ow 0 (.int u)] ∧ 0 ≤ u ∧ 0 < v ∧ u.natAbs.gcd v.natAbs = x.natAbs.gcd y.natAbs ∧ m = u.toNat, ⟨_, y, x, rfl, by omega, g1, Nat.gcd_comm _ _, rfl⟩, ?_⟩
        rintro m env ⟨u, v, rfl, hu, hv, hg, rfl⟩
        refine ⟨fun h => ?_, fun h => ?_⟩
        · have h0 : 0 < u := of_decide_eq_true h
          refine ⟨h0, (v % u).toNat, ?_, v % u, u, rfl, Int.emod_nonneg _ (by omega), h0, (gcd_turn h0 hv).trans hg, rfl⟩
          have := Int.emod_lt_of_pos v h0
          omega
        · have h0 : ¬ 0 < u := of_decide_eq_false h
          obtain rfl : u = 0 := by omega
          refine ⟨trivial, trivial, ?_⟩
          have hg2 : x.natAbs.gcd y.natAbs = v.natAbs := by
            rw [← hg]
            simp
          have e2 : decide (x.natAbs.gcd y.natAbs = 1) = PyData.eqv (D.int v).py (D.int 1).py := by
            show _ = (v == 1)
            by_cases z : v = 1
            · subst z
              exact decide_eq_true hg2
            · rw [beq_eq_false_iff_ne.mpr z]
              exact decide_eq_false (by omega)
          rw [e2] at hQ
          exact hQ
      · have g3 : ¬ y < 1000 := of_decide_eq_false h3
        rw [no (by omega)] at hQ
        exact hQ
    · have g2 : ¬ x < y := of_decide_eq_false h2
      rw [no (by omega)] at hQ
      exact ⟨nofun, fun _ => hQ⟩
    · have g1 : ¬ 0 < x := of_decide_eq_false h1
      rw [no (by omega)] at hQ
      exact ⟨nofun, fun _ => hQ⟩
theorem ok__law_is_fade (S : Stg fas fns tps K mg) : Kn Pg wd K mg bs BI 2 "_law_is_fade" [false] 0 spFade [] := by
  obtain ⟨fd, F⟩ := S.says.def_ 8 (d := d__law_is_fade) rfl
  exact ⟨_, fd, _, [], [], S.g "_law_is_fade" (S.says.fact 8 rfl), F.kp, fn__law_is_fade S F, F.bindsN (fun _ _ _ _ _ _ us hl => match us, hl with | [_], _ => rfl), .nil, fun F => by simp only [RpAll]⟩
def spOdd : DSpec := sp3 fun s a b Q => ∃ x y : Int, s = .bag ∧ a = .int x ∧ b = .int y ∧ Lg 100 x ∧ Lg 100 y ∧ ∀ d, Asked d → Q d
theorem sc__law_odd : FnScope ["_law_state", "_law_top", "_law_base", "_law_some"] ["_law_state", "_law_top", "_law_base"] (defScope s__law_odd) := ⟨rfl, rfl, rfl, by decide +kernel, rfl, by decide +kernel, by decide +kernel⟩
set_option maxHeartbeats 4000000 in
theorem fn__law_odd (S : Stg fas fns tps K mg) {fd : FuncData} (F : FunD K d__law_odd.name d__law_odd.qual d__law_odd.params d__law_odd.body d__law_odd.scope (d__law_odd.dvs K) (d__law_odd.kws K) (He.fAd K d__law_odd.at_) fd) : FnG Pg wd K mg bs 2 (He.fAd K d__law_odd.at_) fd ["_law_state", "_law_top", "_law_base"] (pSp K BI [true, false, false] 0 spOdd) := by
  have nd := (sc__law_odd).nd
  refine mkV F sc__law_odd (fun ds Q h => sp3_len h) (fun cdv A out sh H Ex H0 F0 b0 hr gs =>
    (vss_cons (vs_set 3 0 (ve_lst (va_cons ve_non (va_cons (ve_lst (va_cons (ve_v 1) (va_cons (ve_v 2) va_nil))) (va_cons (ve_tup (va_cons (ve_v 1) va_nil)) (va_cons (ve_tup (va_cons (ve_v 1) (va_cons (ve_v 2) (va_cons ve_int va_nil)))) (va_cons (ve_tup (va_cons ve_bl (va_cons ve_int va_nil))) (va_cons (ve_tup (va_cons ve_int (va_cons ve_bl va_nil))) (va_cons (ve_tup (va_cons ve_int (va_cons ve_non va_nil))) (va_cons (ve_tup (va_cons ve_str (va_cons ve_int va_nil))) (va_cons ve_int (va_cons ve_str (va_cons ve_dic0 (va_cons (ve_tup va_nil) va_nil))))))))))))))
    (vss_one (vs_ret (ve_ix (ve_op ops_add (ve_v 3) (ve_lst (va_cons (ve_tup (va_cons ve_int (va_cons ve_int va_nil))) (va_cons (ve_tup (va_cons ve_int (va_cons ve_int va_nil))) (va_cons (ve_tup (va_cons ve_int (va_cons ve_int va_nil))) (va_cons (ve_tup (va_cons ve_int (va_cons ve_int va_nil))) (va_cons (ve_tup (va_cons ve_int (va_cons ve_int va_nil))) (va_cons (ve_tup (va_cons ve_int (va_cons ve_int va_nil))) (va_cons (ve_tup (va_cons (ve_neg ve_int) (va_cons ve_int va_nil))) (va_cons (ve_tup (va_cons ve_int (va_cons ve_int va_nil))) va_nil)))))))))) (ve_call (ok__law_take S) (hr.mono (by decide)) gs (va_bag 0 (va_cons ve_int va_nil)))))))) (sp3_all ?_)
  rintro a b c Q ⟨x, y, rfl, rfl, rfl, hx, hy, hQ⟩
  have fx : Flat (.int x) := flat_int (hx.mono (by decide))
  have fy : Flat (.int y) := flat_int (hy.mono (by decide))
  have fl : ∀ i : Int, decide (i.natAbs < 2 ^ 20) = true → Flat (.int i) := fun i h => flat_int ((lg_lit (k := 20) h).mono (by decide))
  have s1 : 1 ≤ sizeLine := by decide
  have s2 : 2 ≤ sizeLine := by decide
  have s3 : 3 ≤ sizeLine := by decide
  refine ⟨s2, s1, s3, s2, s2, s2, s2, (by show 0 ≤ sizeLine; decide), (by show 12 ≤ sizeLine; decide), ?_⟩
  refine ⟨s2, s2, s2, s2, s2, s2, s2, s2, (by show 8 ≤ sizeLine; decide), (by show 12 + 8 ≤ sizeLine; decide), 20, rfl, rfl, by decide, lg_lit (by decide), fun d d0 d1 => ?_⟩
  have ask : allD Asked ([D.non, .lst [.int x, .int y], .tup [.int x], .tup [.int x, .int y, .int 1], .tup [.bl true, .int 2], .tup [.int 1, .bl true], .tup [.int 1, .non], .tup [.str "1", .int 2], .int 1, .str "1/2", .dic [], .tup []] ++
      [.tup [.int 1, .int 1000], .tup [.int 999, .int 1000], .tup [.int 998, .int 999], .tup [.int 0, .int 1], .tup [.int 1, .int 1], .tup [.int 1, .int 0], .tup [.int (-1), .int 2], .tup [.int 2, .int 4]]) := by
    have tt : ∀ i j : Int, decide (i.natAbs < 2 ^ 20) = true → decide (j.natAbs < 2 ^ 20) = true → Asked (.tup [.int i, .int j]) := fun i j h1 h2 => asked_tup ⟨fl i h1, fl j h2, trivial⟩ (by show 2 ≤ 50; decide)
    refine ⟨flat_non.asked, asked_lst ⟨fx, fy, trivial⟩ (by show 2 ≤ 50; decide), asked_tup ⟨fx, trivial⟩ (by show 1 ≤ 50; decide), asked_tup ⟨fx, fy, fl 1 (by decide), trivial⟩ (by show 3 ≤ 50; decide), asked_tup ⟨flat_bl, fl 2 (by decide), trivial⟩ (by show 2 ≤ 50; decide), asked_tup ⟨fl 1 (by decide), flat_bl, trivial⟩ (by show 2 ≤ 50; decide),
      asked_tup ⟨fl 1 (by decide), flat_non, trivial⟩ (by show 2 ≤ 50; decide), asked_tup ⟨flat_str (by decide +kernel) (by decide), fl 2 (by decide), trivial⟩ (by show 2 ≤ 50; decide), (fl 1 (by decide)).asked, (flat_str (by decide +kernel) (by decide)).asked, asked_dic, asked_tup trivial (by show 0 ≤ 50; decide), ?_⟩
    exact ⟨tt _ _ (by decide) (by decide), tt _ _ (by decide) (by decide), tt _ _ (by decide) (by decide), tt _ _ (by decide) (by decide), tt _ _ (by decide) (by decide), tt _ _ (by decide) (by decide), tt _ _ (by decide) (by decide), tt _ _ (by decide) (by decide), trivial⟩
  obtain ⟨e, he, ha⟩ := atI_mem (xs := [D.non, .lst [.int x, .int y], .tup [.int x], .tup [.int x, .int y, .int 1], .tup [.bl true, .int 2], .tup [.int 1, .bl true], .tup [.int 1, .non], .tup [.str "1", .int 2], .int 1, .str "1/2", .dic [], .tup []] ++
      [.tup [.int 1, .int 1000], .tup [.int 999, .int 1000], .tup [.int 998, .int 999], .tup [.int 0, .int 1], .tup [.int 1, .int 1], .tup [.int 1, .int 0], .tup [.int (-1), .int 2], .tup [.int 2, .int 4]]) d0 (by exact d1)
  exact ⟨e, ha, hQ e (allD_mem ask e he)⟩
theorem ok__law_odd (S : Stg fas fns tps K mg) : Kn Pg wd K mg bs BI 2 "_law_odd" [true, false, false] 0 spOdd [] := by
  obtain ⟨fd, F⟩ := S.says.def_ 9 (d := d__law_odd) rfl
  exact ⟨_, fd, _, [], [], S.g "_law_odd" (S.says.fact 9 rfl), F.kp, fn__law_odd S F, F.bindsN (fun _ _ _ _ _ _ us hl => match us, hl with | [_, _, _], _ => rfl), .nil, fun F => by simp only [RpAll]⟩
theorem sc_law : FnScope ["_law_script", "_law_k", "_law_state", "_law_base", "_law_top", "_law_thing", "_law_kept"] ["_law_script"] (defScope s_law) := ⟨rfl, rfl, rfl, by decide +kernel, rfl, by decide +kernel, by decide +kernel⟩
set_option maxHeartbeats 4000000 in
theorem fn_law (S : Stg fas fns tps K mg) {fd : FuncData} (F : FunD K d_law.name d_law.qual d_law.params d_law.body d_law.scope (d_law.dvs K) (d_law.kws K) (He.fAd K d_law.at_) fd) : FnG Pg wd K mg bs 5 (He.fAd K d_law.at_) fd ["_law_script"] (pSp K BI [false] 0 spLaw) := by
  have nd := (sc_law).nd
  refine mkV F sc_law (fun ds Q h => sp1_len h) (fun cdv A out sh H Ex H0 F0 b0 hr gs =>
    (vss_cons (vs_for (vi_r1 (va_cons (ve_b (cs_max rfl) (z_max S) PyProof.Rows.boot_max (va_cons ve_int (va_cons (ve_b (cs_min rfl) (z_min S) PyProof.Rows.boot_min (va_cons ve_int (va_cons (ve_b (cs_len) (z_len S) PySem.boot_len (va_cons (ve_v 0) va_nil)) va_nil))) va_nil))) va_nil) (z_range S)) (vg_name 1)
    (vss_cons (vs_setBag (BD := BD) 2 (ve_call (ok__law_begun S) (hr.mono (by decide)) gs (va_cons (ve_v 0) (va_cons (ve_v 1) va_nil))))
    (vss_cons (vs_set 3 0 (ve_op ops_add ve_int (ve_call (ok__law_take S) (hr.mono (by decide)) gs (va_bag 2 (va_cons (ve_ix (ve_lst (va_cons ve_int (va_cons ve_int (va_cons ve_int (va_cons ve_int va_nil))))) (ve_call (ok__law_take S) (hr.mono (by decide)) gs (va_bag 2 (va_cons ve_int va_nil)))) va_nil)))))
    (vss_cons (vs_set 4 0 (ve_op ops_sub (ve_call (ok__law_take S) (hr.mono (by decide)) gs (va_bag 2 (va_cons (ve_op ops_add (ve_v 3) ve_int) va_nil))) ve_int))
    (vss_one (vs_for (vi_list (ve_lst (va_cons (ve_tup (va_cons (ve_v 4) (va_cons (ve_v 3) va_nil))) (va_cons (ve_tup (va_cons (ve_v 3) (va_cons (ve_v 4) va_nil))) (va_cons (ve_tup (va_cons (ve_op ops_mul ve_int (ve_v 4)) (va_cons (ve_op ops_mul ve_int (ve_v 3)) va_nil))) (va_cons (ve_tup (va_cons ve_int (va_cons (ve_op ops_add (ve_v 3) ve_int) va_nil))) (va_cons (ve_call (ok__law_odd S) (hr.mono (by decide)) gs (va_bag 2 (va_cons (ve_v 4) (va_cons (ve_v 3) va_nil)))) (va_cons (ve_lst (va_cons (ve_v 4) va_nil)) va_nil)))))))) (vg_name 5)
    (vss_cons (vs_set 6 0 (ve_b (cs_repr2 gs hr.units) (z_repr S) PyProof.Rows.boot_repr (va_cons (ve_v 5) va_nil)))
    (vss_one (vs_if (vt_w (vw_or (vt_cmp (ops_ne2 hr.units) (ve_b (cs_repr2 gs hr.units) (z_repr S) PyProof.Rows.boot_repr (va_cons (ve_call (ok_is_fade S) (hr.mono (by decide)) gs (va_cons (ve_v 5) va_nil)) va_nil)) (ve_b (cs_repr2 gs hr.units) (z_repr S) PyProof.Rows.boot_repr (va_cons (ve_call (ok__law_is_fade S) (hr.mono (by decide)) gs (va_cons (ve_v 5) va_nil)) va_nil))) (vw_one' (vt_cmp (ops_ne2 hr.units) (ve_b (cs_repr2 gs hr.units) (z_repr S) PyProof.Rows.boot_repr (va_cons (ve_v 5) va_nil)) (ve_v 6)))))
    (vss_one (vs_ret ve_bl))
    vss_nil))) (passes_of rfl)))))) (passes_of rfl))
    (vss_one (vs_ret ve_bl)))) (sp1_all ?_)
  rintro _ Q ⟨ns, rfl, hl, hQ⟩
  refine ⟨?_, ?_, ?_⟩
  · show (if _ > (1 : Int) then _ else _) < _
    split <;> split <;> omega
  · show _ ≤ (if _ > (1 : Int) then _ else _)
    split <;> split <;> omega
  refine goF_ind (fun ds env => (∀ i ∈ ds, ∃ k : Int, i = .int k ∧ 0 ≤ k ∧ k < 64) ∧ ∃ x y z u w t, env = [.ow 0 (.scr ns), x, y, z, u, w, t] ∧ noBg [z, u, w, t] ∧ noBg [w, t]) ?_ ?_ _ _ ⟨?_, _, _, _, _, _, _, rfl, trivial, trivial⟩
  · rintro d r env nx ⟨hd, x, y, z, u, w, t, rfl, hb, hb2⟩ hn
    obtain ⟨k, rfl, k0, k1⟩ := hd d List.mem_cons_self
    have hr : ∀ i ∈ r, ∃ k : Int, i = .int k ∧ 0 ≤ k ∧ k < 64 := fun i m => hd i (List.mem_cons_of_mem _ m)
    refine ⟨ns, k, rfl, rfl, hl, k0, k1, fun n m c m0 m1 => ⟨⟨n, m, c, rfl, m0, m1⟩, ?_, hb, ?_⟩⟩
    · intro d h
      simp only [List.mem_cons, List.not_mem_nil, or_false] at h
      rcases h with rfl | rfl | rfl <;> trivial
    have most : ∀ d : Int, 0 ≤ d → d < 4 → ∃ m : Int, atI [D.int 2, .int 12, .int 999, .int 9999] d = some (.int m) ∧ 0 < m ∧ m ≤ 9999 := by
      intro d h0 h4
      have : d = 0 ∨ d = 1 ∨ d = 2 ∨ d = 3 := by omega
      rcases this with rfl | rfl | rfl | rfl <;> exact ⟨_, rfl, by decide, by decide⟩
    have l20 : ∀ i : Int, i.natAbs ≤ 20006 → Lg 20 i := fun i h => Nat.lt_of_le_of_lt h (by decide)
    refine ⟨(by show 4 ≤ sizeLine; decide), 4, rfl, rfl, by decide, lg_lit (by decide), fun d h0 h4 => ?_⟩
    obtain ⟨m, hm, m0, ml⟩ := most d h0 h4
    refine ⟨_, hm, m, rfl, rfl, m0, (l20 m (by omega)).mono (by decide), fun b b0 b1 => ?_⟩
    refine ⟨1 + b + 3, rfl, rfl, by omega, (l20 _ (by omega)).mono (by decide), fun e e0 e1 => ?_⟩
    have lb := l20 (1 + b) (by omega)
    have lt := l20 (e - 1) (by omega)
    have hpair : ∀ i j : Int, i.natAbs ≤ 20006 → j.natAbs ≤ 20006 → Asked (.tup [.int i, .int j]) := fun i j h1 h2 => asked_tup ⟨flat_int ((l20 i h1).mono (by decide)), flat_int ((l20 j h2).mono (by decide)), trivial⟩ (by show 2 ≤ 50; decide)
    have s2 : 2 ≤ sizeLine := by decide
    refine ⟨s2, s2, rfl, (lg_lit (k := 2) (by decide)).mulW lt (by decide), rfl, (lg_lit (k := 2) (by decide)).mulW lb (by decide), s2, s2, ?_⟩
    refine ⟨e - 1, 1 + b, rfl, rfl, rfl, lt.mono (by decide), lb.mono (by decide), fun odd ho => ?_⟩
    refine ⟨(by show 1 ≤ sizeLine; decide), (by show 6 ≤ sizeLine; decide), ?_⟩
    refine goF_ind (fun ds env => (∀ d ∈ ds, Asked d) ∧ ∃ w t, env = [.ow 0 (.scr ns), .ow 0 (.int k), .bg, .ow 0 (.int (1 + b)), .ow 0 (.int (e - 1)), w, t] ∧ noBg [w, t]) ?_ ?_ _ _ ⟨?_, _, _, rfl, hb2⟩
    · rintro d r env nx2 ⟨hd2, w, t, rfl, hb3⟩ hn2
      have ha := hd2 d List.mem_cons_self
      have nxt := hn2 [.ow 0 (.scr ns), .ow 0 (.int k), .bg, .ow 0 (.int (1 + b)), .ow 0 (.int (e - 1)), .ow 0 d, .ow 0 (.str (rpr d))] ⟨fun d m => hd2 d (List.mem_cons_of_mem _ m), _, _, rfl, trivial⟩
      refine gRepr2_of ha.s ?_
      have sb : Shd (.bl (isFade d)) := .inr (shw_bl _).shw
      refine ⟨ha.k, ha.m, ?_⟩
      refine gRepr2_of sb ?_
      refine ⟨ha.k, ha.m, ?_⟩
      refine gRepr2_of sb ?_
      refine ⟨fun h => ?_, fun _ => ?_⟩
      rotate_left
      refine gRepr2_of ha.s ?_
      refine ⟨fun h => ?_, fun _ => nxt⟩
      · simp at h
      · simp at h
    · rintro env ⟨_, w, t, rfl, hb3⟩
      exact hn _ ⟨hr, _, _, _, _, _, _, rfl, hb3, hb3⟩
    · have all : allD Asked [.tup [.int (e - 1), .int (1 + b)], .tup [.int (1 + b), .int (e - 1)], .tup [.int (2 * (e - 1)), .int (2 * (1 + b))], .tup [.int 1, .int (1 + b + 1)], odd, .lst [.int (e - 1)]] :=
        ⟨hpair _ _ (by omega) (by omega), hpair _ _ (by omega) (by omega), hpair _ _ (by omega) (by omega), hpair _ _ (by omega) (by omega), ho, asked_lst ⟨flat_int (lt.mono (by decide)), trivial⟩ (by show 1 ≤ 50; decide), trivial⟩
      exact allD_mem all
  · rintro env ⟨_, x, y, z, u, w, t, rfl, hb⟩
    exact hQ
  · intro i m
    obtain ⟨j, hj, rfl⟩ := List.mem_map.mp m
    have := List.mem_range.mp hj
    refine ⟨_, rfl, by omega, ?_⟩
    revert this
    show j < (if _ > (1 : Int) then _ else _ : Int).toNat → _
    split <;> split <;> omega
theorem ok_law (S : Stg fas fns tps K mg) : Kn Pg wd K mg bs BI 5 "law" [false] 0 spLaw [] := by
  obtain ⟨fd, F⟩ := S.says.def_ 10 (d := d_law) rfl
  exact ⟨_, fd, _, [], [], S.g "law" (S.says.fact 10 rfl), F.kp, fn_law S F, F.bindsN (fun _ _ _ _ _ _ us hl => match us, hl with | [_], _ => rfl), .nil, fun F => by simp only [RpAll]⟩
abbrev R : PySem.W.OpenRow := PySem.W.OpenLaw.row PySem.Challenge.rw_neartwins_k25_what_is_a_fade
def names : List PySem.Str := (["NOUGHT", "ONE", "is_whole", "divisor", "is_fraction", "BEYOND", "is_short", "is_fade", "_law_begun", "_law_take", "_law_whole", "_law_is_fade", "_law_odd"] : List PySem.Str)
theorem run (w : World) : HandSHeadRun.RunEq R (PySem.W.view R.prog [17]) (hookX 4 fas fns tps) (obX 4 fas fns tps) 4000 names w := by
  intro os
  kernel_rfl
theorem facts {P : Program} {w : World} {h : Heap} {f : Addr} (X : K.In h) (G : h.Ns mainGlobals mg) (hfa : mg ("law" : Str) = some (.ref f)) (c : He.SaysD fas fns K) (t : tpsB tps K = true) :
    ∃ fd : FuncData, (∀ (s : Shared) (v : Value), BindsTo s fd ⟨[v], []⟩ [("_law_script", v)]) ∧ ∀ base : Heap, K.In base → base.Ns mainGlobals mg → FnG P w K mg base 5 f fd ["_law_script"] (pSp K BI [false] 0 spLaw) := by
  have S : Stg fas fns tps K mg := Stg.of X G c t
  obtain ⟨fd, F⟩ := S.says.def_ 10 (d := d_law) rfl
  have e := hfa.symm.trans (S.g "law" (S.says.fact 10 rfl))
  cases e
  have b := FunD.bindsA (ps := ["_law_script"]) F fun _ _ _ _ _ _ us hl => match us, hl with | [_], _ => rfl
  exact ⟨fd, fun s v => b s [v] rfl, fun base _ _ => fn_law S F⟩
end L
open PySem PySem.W PySem.Calls PyProof.Rows
set_option maxHeartbeats 0 in
theorem PySem.Challenge.cw_neartwins_k25_what_is_a_fade_holds : PySem.Challenge.rw_neartwins_k25_what_is_a_fade.Holds := by
  w_on; o_law
  refine HandSHeadRun.head_any (r := OpenLaw.row PySem.Challenge.rw_neartwins_k25_what_is_a_fade) (q := view (OpenLaw.row PySem.Challenge.rw_neartwins_k25_what_is_a_fade).prog [17]) (H := N.hookX 4 L.fas L.fns L.tps) (ob := N.obX 4 L.fas L.fns L.tps) (M := 4000) (loose := L.names) (d := HandSHeadRun.topDef (OpenLaw.row PySem.Challenge.rw_neartwins_k25_what_is_a_fade).prog 17) (kwd := []) (N.obX_eq 4 L.fas L.fns L.tps)
    (by kernel_rfl) (fun s => by kernel_rfl) L.run (by kernel_rfl) (by kernel_rfl) (by kernel_rfl) (by rfl) (by first | assumption | decide +kernel) (by decide +kernel) ⟨rfl, rfl, rfl, rfl, rfl, by decide +kernel⟩ ?hw ?hc
  case hw => w_witness2
  case hc =>
    refine N.law_walk (l := PySem.Challenge.rw_neartwins_k25_what_is_a_fade) (lev := 5) (x := "_law_script") (BI := L.BI) rfl (by kernel_rfl) ⟨rfl, by decide, by decide⟩ ?F
    intro w mg fa h Y G hmg0
    obtain ⟨K, KX, c, t⟩ := Y
    have hmg : mg ("law" : PySem.Str) = some (.ref fa) := by
      have e : (HandSHeadRun.topDef (OpenLaw.row PySem.Challenge.rw_neartwins_k25_what_is_a_fade).prog 17).name = ("law" : PySem.Str) := by kernel_rfl
      rw [← e]
      exact hmg0
    obtain ⟨fd, hb, hF⟩ := L.facts (P := (PySem.Challenge.rw_neartwins_k25_what_is_a_fade).prog) (w := w) KX G hmg c t
    exact ⟨K, fd, KX, hb, hF⟩

