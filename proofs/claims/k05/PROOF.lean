import PyProof.Rows.All
import Wide.All
import OpenK.AllK
import Wide.FinOn
import HandS.ForMost
import HandS.ForExc
import HandS.Deep
import HandS.TupAny
import HandS.IsInst
import HandS.SortInts
import HandS.Conv
import HandS.Style
import HandS.Zip
import KE.GoesMore
import KE.GoesEnum
import HandS.Defaults
import HandS.TupMul
import HandS.SortRule
import HandS.TupSets
import HandS.Keys
import HandS.SortOrd
import HandS.ExcOwn
import HandS.TryMany
import HandS.SetFor
import HandS.NamedTupSort
import HandS.Wide
import KE.KStateDown
import HandS.Ends
import HandS.EndBits
import HandS.WordsExc
import HandS.Head0
import HandS.Head1
import HandS.Head2
import HandS.HeadEnd
import HandS.HeadHook1
import HandS.HeadHook2
import PySem.Challenge.RW_wardsdrawn_k05_plans_of_rows
set_option Elab.async false
set_option linter.all false
set_option maxRecDepth 100000
set_option maxHeartbeats 4000000
/-! DL: a data layer over HandS: values as plain trees (PyData), lists that a slot owns may be changed. -/
namespace DL
open PySem PySem.Spec PyProof.Rows L2

abbrev D := PyData
abbrev AS := Addr → Prop

/-- a tuple of the written part -/
def KTup (K : PySem.W.Frag) (a : Addr) (xs : List V) : Prop :=
  ∃ (o : Obj) (its : Array Value) (n : Nat), K.lookup a = some o ∧ o.cls = .type "tuple" ∧ o.data = .seq its n ∧ its.size ≤ sizeLine ∧ Vals xs its.toList

def keyD : Key → D
  | .inl i => .int i
  | .inr x => .str x

/-- a list of the written part -/
def KLst (K : PySem.W.Frag) (a : Addr) (xs : List V) : Prop :=
  ∃ (o : Obj) (its : Array Value) (n : Nat), K.lookup a = some o ∧ o.cls = .type "list" ∧ o.dict = none ∧ o.data = .seq its n ∧ its.size ≤ sizeLine ∧ Vals xs its.toList
mutual
/-- the value v is the tree d; all its objects stand in F -/
inductive Rep (K : PySem.W.Frag) (F : AS) (H : Hp) : D → V → Prop
  | non : Rep K F H .none .non
  | bl (b : Bool) : Rep K F H (.bool b) (.bl b)
  | int (i : Int) : Rep K F H (.int i) (.int i)
  | str (x : Str) : Rep K F H (.str x) (.str x)
  | lst {a : Addr} {vs : List V} {ds : List D} : F a → Rd H a (.lst vs) → RepL K F H ds vs → Rep K F H (.list ds) (.ref a)
  | klst {a : Addr} {vs : List V} {ds : List D} : KLst K a vs → RepL K F H ds vs → Rep K F H (.list ds) (.ref a)
  | tup {a : Addr} {vs : List V} {ds : List D} : H a = some (.tup vs) → RepL K F H ds vs → Rep K F H (.tuple ds) (.ref a)
  | ktup {a : Addr} {vs : List V} {ds : List D} : KTup K a vs → RepL K F H ds vs → Rep K F H (.tuple ds) (.ref a)
  | dK {a : Addr} {ks : List (Key × V)} {kvs : List (D × D)} : F a → Rd H a (.dK ks) → RepK K F H kvs ks → Rep K F H (.dict kvs) (.ref a)
  | dT {a : Addr} {ks : List (List Key × V)} {kvs : List (D × D)} : F a → Rd H a (.dT ks) → RepT K F H kvs ks → Rep K F H (.dict kvs) (.ref a)
inductive RepL (K : PySem.W.Frag) (F : AS) (H : Hp) : List D → List V → Prop
  | nil : RepL K F H [] []
  | cons {d : D} {v : V} {ds : List D} {vs : List V} : Rep K F H d v → RepL K F H ds vs → RepL K F H (d :: ds) (v :: vs)
inductive RepK (K : PySem.W.Frag) (F : AS) (H : Hp) : List (D × D) → List (Key × V) → Prop
  | nil : RepK K F H [] []
  | cons {k : Key} {d : D} {v : V} {ds : List (D × D)} {vs : List (Key × V)} : Rep K F H d v → RepK K F H ds vs → RepK K F H ((keyD k, d) :: ds) ((k, v) :: vs)
inductive RepT (K : PySem.W.Frag) (F : AS) (H : Hp) : List (D × D) → List (List Key × V) → Prop
  | nil : RepT K F H [(.none, .none)] []
  | cons {k : List Key} {d : D} {v : V} {ds : List (D × D)} {vs : List (List Key × V)} : Rep K F H d v → RepT K F H ds vs → RepT K F H ((.tuple (k.map keyD), d) :: ds) ((k, v) :: vs)
end

/-- F grows, what stands in it stays; tuples stay -/
structure Grow (F : AS) (H : Hp) (F' : AS) (H' : Hp) : Prop where
  at_ : ∀ a, F a → F' a ∧ H' a = H a
  tups : ∀ a vs, H a = some (.tup vs) → H' a = some (.tup vs)
theorem Grow.refl (F : AS) (H : Hp) : Grow F H F H := ⟨fun _ h => ⟨h, rfl⟩, fun _ _ h => h⟩
theorem Grow.up {F F' : AS} {H : Hp} (g : ∀ a, F a → F' a) : Grow F H F' H := ⟨fun a h => ⟨g a h, rfl⟩, fun _ _ h => h⟩
theorem Grow.trans {F F1 F2 : AS} {H H1 H2 : Hp} (a : Grow F H F1 H1) (b : Grow F1 H1 F2 H2) : Grow F H F2 H2 :=
  ⟨fun x h => ⟨(b.at_ x (a.at_ x h).1).1, ((b.at_ x (a.at_ x h).1).2).trans (a.at_ x h).2⟩, fun x vs h => b.tups x vs (a.tups x vs h)⟩
theorem rd_eq {H H' : Hp} {a : Addr} {u : HO} (e : H' a = H a) (r : Rd H a u) : Rd H' a u := by
  rcases r with r | ⟨o, r⟩
  · exact .inl (e.trans r)
  · exact .inr ⟨o, e.trans r⟩

section
variable {K : PySem.W.Frag} {F F' : AS} {H H' : Hp}
mutual
theorem Rep.mono (g : Grow F H F' H') : ∀ {d : D} {v : V}, Rep K F H d v → Rep K F' H' d v
  | _, _, .non => .non
  | _, _, .bl b => .bl b
  | _, _, .int i => .int i
  | _, _, .str x => .str x
  | _, _, .lst f r l => .lst (g.at_ _ f).1 (rd_eq (g.at_ _ f).2 r) (RepL.mono g l)
  | _, _, .klst r l => .klst r (RepL.mono g l)
  | _, _, .tup r l => .tup (g.tups _ _ r) (RepL.mono g l)
  | _, _, .ktup f l => .ktup f (RepL.mono g l)
  | _, _, .dK f r l => .dK (g.at_ _ f).1 (rd_eq (g.at_ _ f).2 r) (RepK.mono g l)
  | _, _, .dT f r l => .dT (g.at_ _ f).1 (rd_eq (g.at_ _ f).2 r) (RepT.mono g l)
theorem RepL.mono (g : Grow F H F' H') : ∀ {d : List D} {v : List V}, RepL K F H d v → RepL K F' H' d v
  | _, _, .nil => .nil
  | _, _, .cons h t => .cons (Rep.mono g h) (RepL.mono g t)
theorem RepK.mono (g : Grow F H F' H') : ∀ {d : List (D × D)} {v : List (Key × V)}, RepK K F H d v → RepK K F' H' d v
  | _, _, .nil => .nil
  | _, _, .cons h t => .cons (Rep.mono g h) (RepK.mono g t)
theorem RepT.mono (g : Grow F H F' H') : ∀ {d : List (D × D)} {v : List (List Key × V)}, RepT K F H d v → RepT K F' H' d v
  | _, _, .nil => .nil
  | _, _, .cons h t => .cons (Rep.mono g h) (RepT.mono g t)
end

theorem RepL.length : ∀ {ds : List D} {vs : List V}, RepL K F H ds vs → vs.length = ds.length
  | _, _, .nil => rfl
  | _, _, .cons _ t => by simp [RepL.length t]
theorem RepL.get : ∀ {ds : List D} {vs : List V} {i : Nat} {d : D}, RepL K F H ds vs → ds[i]? = some d → ∃ v, vs[i]? = some v ∧ Rep K F H d v
  | _, _, _, _, .nil, e => by simp at e
  | _, _, 0, _, .cons h _, e => by simp at e; subst e; exact ⟨_, rfl, h⟩
  | _, _, i + 1, d, .cons _ t, e => by
    obtain ⟨v, h1, h2⟩ := RepL.get (i := i) (d := d) t (by simpa using e)
    exact ⟨v, by simpa using h1, h2⟩
theorem RepL.append : ∀ {ds es : List D} {vs us : List V}, RepL K F H ds vs → RepL K F H es us → RepL K F H (ds ++ es) (vs ++ us)
  | _, _, _, _, .nil, s => s
  | _, _, _, _, .cons h t, s => .cons h (RepL.append t s)
theorem RepL.take : ∀ {ds : List D} {vs : List V} (n : Nat), RepL K F H ds vs → RepL K F H (ds.take n) (vs.take n)
  | _, _, 0, _ => by simp; exact .nil
  | _, _, _ + 1, .nil => by simp; exact .nil
  | _, _, n + 1, .cons h t => .cons h (RepL.take n t)
theorem RepL.drop : ∀ {ds : List D} {vs : List V} (n : Nat), RepL K F H ds vs → RepL K F H (ds.drop n) (vs.drop n)
  | _, _, 0, r => r
  | _, _, _ + 1, .nil => by simp; exact .nil
  | _, _, n + 1, .cons _ t => RepL.drop n t
theorem RepL.split : ∀ {ds es : List D} {vs : List V}, RepL K F H (ds ++ es) vs → ∃ v1 v2, vs = v1 ++ v2 ∧ RepL K F H ds v1 ∧ RepL K F H es v2
  | [], _, vs, h => ⟨[], vs, rfl, .nil, h⟩
  | d :: ds, es, _, .cons h t => by
    obtain ⟨v1, v2, e, h1, h2⟩ := RepL.split (ds := ds) (es := es) t
    exact ⟨_ :: v1, v2, by rw [e]; rfl, .cons h h1, h2⟩
theorem RepL.set : ∀ {ds : List D} {vs : List V} {d : D} {v : V} (i : Nat), Rep K F H d v → RepL K F H ds vs → RepL K F H (ds.set i d) (vs.set i v)
  | _, _, _, _, _, _, .nil => by simp; exact .nil
  | _, _, _, _, 0, r, .cons _ t => .cons r t
  | _, _, _, _, i + 1, r, .cons h t => .cons h (RepL.set i r t)

/-- no object that may be changed at its top -/
def still : D → Bool
  | .list _ => false
  | .dict _ => false
  | _ => true

/-! ### owned trees -/
inductive AllOwn (P : D → V → List Addr → Prop) : List D → List V → List Addr → Prop
  | nil : AllOwn P [] [] []
  | cons {d : D} {v : V} {A B : List Addr} {ds : List D} {vs : List V} : P d v A → AllOwn P ds vs B → AllOwn P (d :: ds) (v :: vs) (A ++ B)

/-- v is the tree d; its lists down to depth n are the addresses A, what is below stands in F -/
def Own (K : PySem.W.Frag) (F : AS) (H : Hp) : Nat → D → V → List Addr → Prop
  | 0, d, v, A => A = [] ∧ Rep K F H d v
  | n + 1, d, v, A => (A = [] ∧ still d = true ∧ Rep K F H d v) ∨
      (∃ ds a vs B, d = .list ds ∧ v = .ref a ∧ H a = some (.lst vs) ∧ A = a :: B ∧ AllOwn (Own K F H n) ds vs B) ∨
      (∃ kvs a ks, d = .dict kvs ∧ v = .ref a ∧ H a = some (.dK ks) ∧ A = [a] ∧ RepK K F H kvs ks) ∨
      (∃ kvs a ks, d = .dict kvs ∧ v = .ref a ∧ H a = some (.dT ks) ∧ A = [a] ∧ RepT K F H kvs ks)

theorem AllOwn.imp {P P' : D → V → List Addr → Prop} : ∀ {ds : List D} {vs : List V} {A : List Addr}, AllOwn P ds vs A → (∀ d v B, (∀ a ∈ B, a ∈ A) → P d v B → P' d v B) → AllOwn P' ds vs A
  | _, _, _, .nil, _ => .nil
  | _, _, _, .cons h t, f => .cons (f _ _ _ (fun a ha => List.mem_append_left _ ha) h) (t.imp fun d v B hB => f d v B fun a ha => List.mem_append_right _ (hB a ha))
theorem AllOwn.length {P : D → V → List Addr → Prop} : ∀ {ds : List D} {vs : List V} {A : List Addr}, AllOwn P ds vs A → vs.length = ds.length
  | _, _, _, .nil => rfl
  | _, _, _, .cons _ t => by simp [t.length]
theorem AllOwn.of_rep : ∀ {ds : List D} {vs : List V}, RepL K F H ds vs → AllOwn (Own K F H 0) ds vs []
  | _, _, .nil => .nil
  | _, _, .cons h t => AllOwn.cons (A := []) (B := []) ⟨rfl, h⟩ (AllOwn.of_rep t)
theorem AllOwn.to_rep {n : Nat} (ih : ∀ {d v A}, Own K F H n d v A → (∀ a ∈ A, F' a) → Rep K F' H d v) : ∀ {ds : List D} {vs : List V} {A : List Addr}, AllOwn (Own K F H n) ds vs A → (∀ a ∈ A, F' a) → RepL K F' H ds vs
  | _, _, _, .nil, _ => .nil
  | _, _, _, .cons h t, f => .cons (ih h fun a ha => f a (List.mem_append_left _ ha)) (AllOwn.to_rep ih t fun a ha => f a (List.mem_append_right _ ha))
theorem AllOwn.nil_of {ds : List D} {vs : List V} {A : List Addr} (h : AllOwn (Own K F H 0) ds vs A) : A = [] ∧ RepL K F H ds vs := by
  induction h with
  | nil => exact ⟨rfl, .nil⟩
  | cons h _ ih => exact ⟨by rw [h.1, ih.1]; rfl, .cons h.2 ih.2⟩

theorem Own.mono : ∀ {n : Nat} {d : D} {v : V} {A : List Addr}, Own K F H n d v A → Grow F H F' H' → (∀ a ∈ A, H' a = H a) → Own K F' H' n d v A
  | 0, d, v, A, h, g, _ => ⟨h.1, h.2.mono g⟩
  | n + 1, d, v, A, h, g, e => by
    rcases h with ⟨h1, h2, h3⟩ | ⟨ds, a, vs, B, h1, h2, h3, h4, h5⟩ | ⟨kvs, a, ks, h1, h2, h3, h4, h5⟩ | ⟨kvs, a, ks, h1, h2, h3, h4, h5⟩
    · exact .inl ⟨h1, h2, h3.mono g⟩
    · subst h4
      exact .inr (.inl ⟨ds, a, vs, B, h1, h2, (e a List.mem_cons_self).trans h3, rfl, h5.imp fun d v C hC o => Own.mono o g fun a ha => e a (List.mem_cons_of_mem _ (hC a ha))⟩)
    · subst h4
      exact .inr (.inr (.inl ⟨kvs, a, ks, h1, h2, (e a List.mem_cons_self).trans h3, rfl, h5.mono g⟩))
    · subst h4
      exact .inr (.inr (.inr ⟨kvs, a, ks, h1, h2, (e a List.mem_cons_self).trans h3, rfl, h5.mono g⟩))
/-- frozen -/
theorem Own.rep (g : ∀ a, F a → F' a) : ∀ {n : Nat} {d : D} {v : V} {A : List Addr}, Own K F H n d v A → (∀ a ∈ A, F' a) → Rep K F' H d v
  | 0, d, v, A, h, _ => h.2.mono (Grow.up g)
  | n + 1, d, v, A, h, e => by
    rcases h with ⟨h1, h2, h3⟩ | ⟨ds, a, vs, B, h1, h2, h3, h4, h5⟩ | ⟨kvs, a, ks, h1, h2, h3, h4, h5⟩ | ⟨kvs, a, ks, h1, h2, h3, h4, h5⟩
    · exact h3.mono (Grow.up g)
    · subst h1 h2 h4
      exact .lst (e a List.mem_cons_self) (.inl h3) (AllOwn.to_rep (fun o f => Own.rep g o f) h5 fun a ha => e a (List.mem_cons_of_mem _ ha))
    · subst h1 h2 h4
      exact .dK (e a List.mem_cons_self) (.inl h3) (h5.mono (Grow.up g))
    · subst h1 h2 h4
      exact .dT (e a List.mem_cons_self) (.inl h3) (h5.mono (Grow.up g))
theorem AllOwn.there {n : Nat} (ih : ∀ {d v A}, Own K F H n d v A → ∀ a ∈ A, H a ≠ none) : ∀ {ds : List D} {vs : List V} {A : List Addr}, AllOwn (Own K F H n) ds vs A → ∀ a ∈ A, H a ≠ none
  | _, _, _, .nil, a, ha => by cases ha
  | _, _, _, .cons h t, a, ha => (List.mem_append.mp ha).elim (ih h a) (AllOwn.there ih t a)
theorem Own.there : ∀ {n : Nat} {d : D} {v : V} {A : List Addr}, Own K F H n d v A → ∀ a ∈ A, H a ≠ none
  | 0, d, v, A, h, a, ha => by rw [h.1] at ha; cases ha
  | n + 1, d, v, A, h, x, hx => by
    rcases h with ⟨h1, h2, h3⟩ | ⟨ds, a, vs, B, h1, h2, h3, h4, h5⟩ | ⟨kvs, a, ks, h1, h2, h3, h4, h5⟩ | ⟨kvs, a, ks, h1, h2, h3, h4, h5⟩
    · rw [h1] at hx; cases hx
    · subst h4
      rcases List.mem_cons.mp hx with rfl | hx
      · rw [h3]; exact fun z => by cases z
      · exact AllOwn.there (fun o => Own.there o) h5 x hx
    · subst h4
      rcases List.mem_cons.mp hx with rfl | hx
      · rw [h3]; exact fun z => by cases z
      · cases hx
    · subst h4
      rcases List.mem_cons.mp hx with rfl | hx
      · rw [h3]; exact fun z => by cases z
      · cases hx
theorem Own.still {n : Nat} {d : D} {v : V} {A : List Addr} (h : Own K F H n d v A) (s : n = 0 ∨ still d = true) : A = [] ∧ Rep K F H d v := by
  cases n with
  | zero => exact h
  | succ n =>
    have s : DL.still d = true := by
      rcases s with s | s
      · cases s
      · exact s
    rcases h with ⟨h1, h2, h3⟩ | ⟨ds, a, vs, B, h1, _⟩ | ⟨kvs, a, ks, h1, _⟩ | ⟨kvs, a, ks, h1, _⟩
    · exact ⟨h1, h3⟩
    · subst h1; cases s
    · subst h1; cases s
    · subst h1; cases s
theorem Own.of_rep {n : Nat} {d : D} {v : V} (h : Rep K F H d v) (s : n = 0 ∨ DL.still d = true) : Own K F H n d v [] := by
  cases n with
  | zero => exact ⟨rfl, h⟩
  | succ n =>
    rcases s with s | s
    · cases s
    · exact .inl ⟨rfl, s, h⟩
end
end DL

namespace DL
open PySem PySem.Spec PyProof.Rows L2

/-! ### results -/
/-- an exception of the program's own classes -/
inductive Exn where
  | plain (c : Str)
  | fld (c f : Str) (d : D)
/-- slots: the value and how deep its lists are owned -/
abbrev Env' := List (Option (D × Nat))
inductive Res (α : Type) where
  | ok (a : α)
  | exc (x : Exn) (ρ : Env')
  | stuck
def Res.bind {α β : Type} (r : Res α) (f : α → Res β) : Res β := match r with
  | .ok a => f a
  | .exc x ρ => .exc x ρ
  | .stuck => .stuck
instance : Monad Res where
  pure := .ok
  bind := Res.bind
@[simp] theorem bind_ok {α β : Type} (a : α) (f : α → Res β) : (Res.ok a >>= f) = f a := rfl
@[simp] theorem bind_exc {α β : Type} (x : Exn) (ρ : Env') (f : α → Res β) : (Res.exc x ρ >>= f) = .exc x ρ := rfl
@[simp] theorem bind_stuck {α β : Type} (f : α → Res β) : ((Res.stuck : Res α) >>= f) = .stuck := rfl
@[simp] theorem pure_ok {α : Type} (a : α) : (pure a : Res α) = .ok a := rfl

def ExRep (K : PySem.W.Frag) (mg : Str → Option Value) (F : AS) (H : Hp) : Exn → Value → Option Addr → Prop
  | .plain c, cls, _ => ∃ C : Addr, mg c = some (.ref C) ∧ cls = .ref C
  | .fld c f d, cls, dx => ∃ (C dd : Addr) (v : V), mg c = some (.ref C) ∧ cls = .ref C ∧ dx = some dd ∧ H dd = some (.xd [(f, v)]) ∧ Rep K F H d v

/-! ### the slots -/
/-- slots hold data; A: what a value at hand owns besides -/
def RelX (K : PySem.W.Frag) (F P : AS) (ρ : Env') (σ : L2.St) (H : Hp) (A : List Addr) : Prop :=
  ρ.length = σ.length ∧ (∀ a, F a ∨ P a → H a ≠ none) ∧ A.Nodup ∧ ∃ w : Addr → Option Nat,
    (∀ (i : Nat) (d : D) (n : Nat), ρ[i]? = some (some (d, n)) → ∃ v B, σ[i]? = some (some v) ∧ Own K F H n d v B ∧ B.Nodup ∧ ∀ a ∈ B, w a = some i) ∧
    (∀ a i, w a = some i → ¬ F a ∧ ¬ P a ∧ H a ≠ none) ∧ (∀ a ∈ A, w a = none ∧ ¬ F a ∧ ¬ P a)
abbrev Rel (K : PySem.W.Frag) (F P : AS) (ρ : Env') (σ : L2.St) (H : Hp) : Prop := RelX K F P ρ σ H []

structure Step (F P : AS) (H : Hp) (F' : AS) (H' : Hp) : Prop where
  grow : Grow F H F' H'
  prot : ∀ a, P a → H' a = H a
  fresh : ∀ a, F' a → F a ∨ ¬ P a
theorem Step.refl {F P : AS} {H : Hp} : Step F P H F H := ⟨Grow.refl F H, fun _ _ => rfl, fun _ h => .inl h⟩
theorem Step.trans {F P F1 F2 : AS} {H H1 H2 : Hp} (a : Step F P H F1 H1) (b : Step F1 P H1 F2 H2) : Step F P H F2 H2 :=
  ⟨a.grow.trans b.grow, fun x h => (b.prot x h).trans (a.prot x h), fun x h => (b.fresh x h).elim (a.fresh x) .inr⟩
/-- with more kept meanwhile -/
theorem Step.less {F P P' F' : AS} {H H' : Hp} (a : Step F P' H F' H') (h : ∀ x, P x → P' x) : Step F P H F' H' :=
  ⟨a.grow, fun x q => a.prot x (h x q), fun x q => (a.fresh x q).imp id fun z y => z (h x y)⟩

/-- what a piece of work does: A was at hand, A' is now -/
structure Eff (F : AS) (H : Hp) (A : List Addr) (F' : AS) (H' : Hp) (A' : List Addr) : Prop where
  same : ∀ a o, H a = some o → a ∉ A → H' a = some o
  grow : ∀ a, F a → F' a
  fresh : ∀ a, F' a → F a ∨ H a = none ∨ a ∈ A
  own : ∀ a ∈ A', (H a = none ∨ a ∈ A) ∧ ¬ F' a
  nd : A'.Nodup
  dom : ∀ a, F' a → H' a ≠ none
  tups : ∀ a vs, H a = some (.tup vs) → H' a = some (.tup vs)
/-- new objects alone -/
abbrev Alloc (F : AS) (H : Hp) (F' : AS) (H' : Hp) (A : List Addr) : Prop := Eff F H [] F' H' A

section
variable {K : PySem.W.Frag} {F F' P P' : AS} {H H' : Hp} {ρ ρ' : Env'} {σ : L2.St} {A B : List Addr}
theorem RelX.dom (r : RelX K F P ρ σ H A) : ∀ a, F a ∨ P a → H a ≠ none := r.2.1
theorem same_eq {a : Addr} (s : Same H H') (h : H a ≠ none) : H' a = H a := by
  cases e : H a with
  | none => exact absurd e h
  | some o => exact s a o e
theorem Eff.eq {a : Addr} (e : Eff F H A F' H' B) (h : H a ≠ none) (n : a ∉ A) : H' a = H a := by
  cases q : H a with
  | none => exact absurd q h
  | some o => exact e.same a o q n
theorem Alloc.refl (h : ∀ a, F a → H a ≠ none) : Alloc F H F H [] :=
  ⟨fun _ _ h _ => h, fun _ h => h, fun _ h => .inl h, fun _ h => (by cases h), List.nodup_nil, h, fun _ _ h => h⟩
theorem Eff.growF (e : Eff F H A F' H' B) (r : RelX K F P ρ σ H A) : Grow F H F' H' :=
  ⟨fun a h => ⟨e.grow a h, e.eq (r.dom a (.inl h)) fun z => (r.2.2.2.elim fun w q => (q.2.2 a z).2.1) h⟩, e.tups⟩
theorem Eff.step (e : Eff F H A F' H' B) (r : RelX K F P ρ σ H A) : Step F P H F' H' := by
  have hA : ∀ a ∈ A, ¬ F a ∧ ¬ P a := fun a ha => r.2.2.2.elim fun w q => (q.2.2 a ha).2
  exact ⟨e.growF r, fun a h => e.eq (r.dom a (.inr h)) fun z => (hA a z).2 h, fun a h => (e.fresh a h).imp id fun z y => z.elim (r.dom a (.inr y)) fun z => (hA a z).2 y⟩
theorem Eff.rel (e : Eff F H A F' H' B) (r : RelX K F P ρ σ H A) : RelX K F' P ρ σ H' B := by
  have gr := e.growF r
  obtain ⟨hl, hd, hn, w, h1, h2, h3⟩ := r
  have nA : ∀ a i, w a = some i → a ∉ A := fun a i h z => by rw [(h3 a z).1] at h; cases h
  refine ⟨hl, fun a h => ?_, e.nd, w, fun i d n q => ?_, fun a i q => ?_, fun a ha => ?_⟩
  · rcases h with h | h
    · exact e.dom a h
    · rw [e.eq (hd a (.inr h)) fun z => (h3 a z).2.2 h]; exact hd a (.inr h)
  · obtain ⟨v, B', e1, o, nd, hw⟩ := h1 i d n q
    exact ⟨v, B', e1, o.mono gr fun a ha => e.eq (h2 a i (hw a ha)).2.2 (nA a i (hw a ha)), nd, hw⟩
  · obtain ⟨q1, q2, q3⟩ := h2 a i q
    exact ⟨fun z => (e.fresh a z).elim q1 fun z => z.elim q3 (nA a i q), q2, by rw [e.eq q3 (nA a i q)]; exact q3⟩
  · obtain ⟨q1, q2⟩ := e.own a ha
    rcases q1 with q1 | q1
    · refine ⟨?_, q2, fun z => hd a (.inr z) q1⟩
      cases q : w a with
      | none => rfl
      | some i => exact absurd q1 (h2 a i q).2.2
    · exact ⟨(h3 a q1).1, q2, (h3 a q1).2.2⟩
/-- what is at hand is dropped -/
theorem RelX.drop (r : RelX K F P ρ σ H A) : Rel K F P ρ σ H := by
  obtain ⟨hl, hd, hn, w, h1, h2, h3⟩ := r
  exact ⟨hl, hd, List.nodup_nil, w, h1, h2, fun a ha => by cases ha⟩
/-- what is at hand is kept: it belongs to P meanwhile -/
theorem RelX.hold (r : RelX K F P ρ σ H A) (hA : ∀ a ∈ A, H a ≠ none) : Rel K F (fun a => P a ∨ a ∈ A) ρ σ H := by
  obtain ⟨hl, hd, hn, w, h1, h2, h3⟩ := r
  refine ⟨hl, fun a h => ?_, List.nodup_nil, w, h1, fun a i e => ?_, fun a ha => by cases ha⟩
  · rcases h with h | h | h
    · exact hd a (.inl h)
    · exact hd a (.inr h)
    · exact hA a h
  · obtain ⟨q1, q2, q3⟩ := h2 a i e
    refine ⟨q1, fun z => ?_, q3⟩
    rcases z with z | z
    · exact q2 z
    · rw [(h3 a z).1] at e; cases e
/-- behind: it is at hand again, with what came -/
theorem RelX.unhold (r : RelX K F (fun a => P a ∨ a ∈ A) ρ σ H B) (hA : A.Nodup) (hf : ∀ a ∈ A, ¬ F a ∧ ¬ P a) : RelX K F P ρ σ H (A ++ B) := by
  obtain ⟨hl, hd, hn, w, h1, h2, h3⟩ := r
  refine ⟨hl, fun a h => hd a (h.imp id .inl), List.nodup_append.mpr ⟨hA, hn, fun a ha b hb e => (h3 b hb).2.2 (.inr (e ▸ ha))⟩, w, h1, fun a i e => ?_, fun a ha => ?_⟩
  · obtain ⟨q1, q2, q3⟩ := h2 a i e
    exact ⟨q1, fun z => q2 (.inl z), q3⟩
  · rcases List.mem_append.mp ha with ha | ha
    · refine ⟨?_, hf a ha⟩
      cases e : w a with
      | none => rfl
      | some i => exact absurd (.inr ha) (h2 a i e).2.1
    · obtain ⟨q1, q2, q3⟩ := h3 a ha
      exact ⟨q1, q2, fun z => q3 (.inl z)⟩
/-- what is at hand is frozen -/
theorem RelX.freeze (r : RelX K F P ρ σ H A) (hA : ∀ a ∈ A, H a ≠ none) : Step F P H (fun a => F a ∨ a ∈ A) H ∧ Rel K (fun a => F a ∨ a ∈ A) P ρ σ H := by
  obtain ⟨hl, hd, hn, w, h1, h2, h3⟩ := r
  refine ⟨⟨Grow.up fun a h => .inl h, fun _ _ => rfl, fun a h => h.imp id fun z => (h3 a z).2.2⟩, hl, fun a h => ?_, List.nodup_nil, w, fun i d n e => ?_, fun a i e => ?_, fun a ha => by cases ha⟩
  · rcases h with (h | h) | h
    · exact hd a (.inl h)
    · exact hA a h
    · exact hd a (.inr h)
  · obtain ⟨v, B, e1, o, nd, hw⟩ := h1 i d n e
    exact ⟨v, B, e1, o.mono (Grow.up fun a h => .inl h) fun _ _ => rfl, nd, hw⟩
  · obtain ⟨q1, q2, q3⟩ := h2 a i e
    refine ⟨fun z => ?_, q2, q3⟩
    rcases z with z | z
    · exact q1 z
    · rw [(h3 a z).1] at e; cases e
theorem RelX.slot (r : RelX K F P ρ σ H A) {i : Nat} {d : D} {n : Nat} (e : ρ[i]? = some (some (d, n))) : ∃ v B, σ[i]? = some (some v) ∧ Own K F H n d v B ∧ B.Nodup ∧ ∀ a ∈ B, ¬ F a ∧ ¬ P a := by
  obtain ⟨hl, hd, hn, w, h1, h2, h3⟩ := r
  obtain ⟨v, B, e1, o, nd, hw⟩ := h1 i d n e
  exact ⟨v, B, e1, o, nd, fun a ha => ⟨(h2 a i (hw a ha)).1, (h2 a i (hw a ha)).2.1⟩⟩
/-- a slot's lists are frozen -/
theorem RelX.freezeSlot (r : Rel K F P ρ σ H) {i : Nat} {d : D} {n : Nat} (e : ρ[i]? = some (some (d, n))) :
    ∃ v F', σ[i]? = some (some v) ∧ Rep K F' H d v ∧ Step F P H F' H ∧ Rel K F' P (ρ.set i (some (d, 0))) σ H := by
  obtain ⟨hl, hd, hn, w, h1, h2, h3⟩ := r
  obtain ⟨v, B, e1, o, nd, hw⟩ := h1 i d n e
  have hB : ∀ a ∈ B, ¬ F a ∧ ¬ P a ∧ H a ≠ none := fun a ha => h2 a i (hw a ha)
  have rp : Rep K (fun a => F a ∨ a ∈ B) H d v := o.rep (fun a h => .inl h) fun a h => .inr h
  refine ⟨v, fun a => F a ∨ a ∈ B, e1, rp, ⟨Grow.up fun a h => .inl h, fun _ _ => rfl, fun a h => h.imp id fun z => (hB a z).2.1⟩, by simpa using hl, fun a h => ?_, List.nodup_nil, fun a => if a ∈ B then none else w a, fun j d' n' ej => ?_, fun a j ej => ?_, fun a ha => by cases ha⟩
  · rcases h with (h | h) | h
    · exact hd a (.inl h)
    · exact (hB a h).2.2
    · exact hd a (.inr h)
  · by_cases hj : j = i
    · subst hj
      rw [List.getElem?_set_self (by rw [hl]; exact (List.getElem?_eq_some_iff.mp e1).1)] at ej
      cases ej
      exact ⟨v, [], e1, ⟨rfl, rp⟩, List.nodup_nil, fun a ha => by cases ha⟩
    · rw [List.getElem?_set_ne (Ne.symm hj)] at ej
      obtain ⟨v', B', e1', o', nd', hw'⟩ := h1 j d' n' ej
      refine ⟨v', B', e1', o'.mono (Grow.up fun a h => .inl h) (fun _ _ => rfl), nd', fun a ha => ?_⟩
      show (if a ∈ B then none else w a) = some j
      rw [if_neg fun z => hj (by have q := hw a z; rw [hw' a ha] at q; exact Option.some.inj q)]
      exact hw' a ha
  · have ej' : (if a ∈ B then none else w a) = some j := ej
    by_cases hb : a ∈ B
    · rw [if_pos hb] at ej'; cases ej'
    · rw [if_neg hb] at ej'
      obtain ⟨q1, q2, q3⟩ := h2 a j ej'
      exact ⟨fun z => z.elim q1 hb, q2, q3⟩
/-- a slot's tree is taken to hand -/
theorem RelX.take (r : RelX K F P ρ σ H A) {i : Nat} {d : D} {n : Nat} (e : ρ[i]? = some (some (d, n))) :
    ∃ v B, σ[i]? = some (some v) ∧ Own K F H n d v B ∧ RelX K F P (ρ.set i none) σ H (B ++ A) := by
  obtain ⟨hl, hd, hn, w, h1, h2, h3⟩ := r
  obtain ⟨v, B, e1, o, nd, hw⟩ := h1 i d n e
  refine ⟨v, B, e1, o, by simpa using hl, hd, List.nodup_append.mpr ⟨nd, hn, fun a ha b hb z => ?_⟩, fun a => if a ∈ B then none else w a, fun j d' n' ej => ?_, fun a j ej => ?_, fun a ha => ?_⟩
  · have q := hw a ha
    rw [z, (h3 b hb).1] at q; cases q
  · by_cases hj : j = i
    · subst hj
      rw [List.getElem?_set_self (List.getElem?_eq_some_iff.mp e).1] at ej
      cases ej
    · rw [List.getElem?_set_ne (Ne.symm hj)] at ej
      obtain ⟨v', B', e1', o', nd', hw'⟩ := h1 j d' n' ej
      refine ⟨v', B', e1', o', nd', fun a ha => ?_⟩
      show (if a ∈ B then none else w a) = some j
      rw [if_neg fun z => hj (by have q := hw a z; rw [hw' a ha] at q; exact Option.some.inj q)]
      exact hw' a ha
  · have ej' : (if a ∈ B then none else w a) = some j := ej
    by_cases hb : a ∈ B
    · rw [if_pos hb] at ej'; cases ej'
    · rw [if_neg hb] at ej'
      exact h2 a j ej'
  · show (if a ∈ B then none else w a) = none ∧ _
    rcases List.mem_append.mp ha with ha | ha
    · rw [if_pos ha]
      exact ⟨rfl, (h2 a i (hw a ha)).1, (h2 a i (hw a ha)).2.1⟩
    · obtain ⟨q1, q2⟩ := h3 a ha
      refine ⟨?_, q2⟩
      by_cases hb : a ∈ B
      · rw [if_pos hb]
      · rw [if_neg hb]; exact q1
/-- a slot is set to what is at hand -/
theorem RelX.put (r : RelX K F P ρ σ H (A ++ B)) {i : Nat} {d : D} {n : Nat} {v : V} (hi : i < ρ.length) (o : Own K F H n d v A) : RelX K F P (ρ.set i (some (d, n))) (σ.set i (some v)) H B := by
  obtain ⟨hl, hd, hn, w, h1, h2, h3⟩ := r
  obtain ⟨nA, nB, nAB⟩ := List.nodup_append.mp hn
  refine ⟨by simpa using hl, hd, nB, fun a => if a ∈ A then some i else if w a = some i then none else w a, fun j d' n' ej => ?_, fun a j ej => ?_, fun a ha => ?_⟩
  · by_cases hj : j = i
    · subst hj
      rw [List.getElem?_set_self hi] at ej
      cases ej
      refine ⟨v, A, List.getElem?_set_self (by omega), o, nA, fun a ha => ?_⟩
      show (if a ∈ A then some j else _) = some j
      rw [if_pos ha]
    · rw [List.getElem?_set_ne (Ne.symm hj)] at ej
      obtain ⟨v', B', e1', o', nd', hw'⟩ := h1 j d' n' ej
      refine ⟨v', B', by rw [List.getElem?_set_ne (Ne.symm hj)]; exact e1', o', nd', fun a ha => ?_⟩
      show (if a ∈ A then some i else if w a = some i then none else w a) = some j
      have q := hw' a ha
      rw [if_neg (fun z => by rw [(h3 a (List.mem_append_left _ z)).1] at q; cases q), q, if_neg (fun z => hj (Option.some.inj z))]
  · have ej' : (if a ∈ A then some i else if w a = some i then none else w a) = some j := ej
    by_cases ha : a ∈ A
    · exact ⟨(h3 a (List.mem_append_left _ ha)).2.1, (h3 a (List.mem_append_left _ ha)).2.2, o.there a ha⟩
    · rw [if_neg ha] at ej'
      by_cases hw : w a = some i
      · rw [if_pos hw] at ej'; cases ej'
      · rw [if_neg hw] at ej'
        exact h2 a j ej'
  · show (if a ∈ A then some i else if w a = some i then none else w a) = none ∧ _
    obtain ⟨q1, q2⟩ := h3 a (List.mem_append_right _ ha)
    rw [if_neg fun z => nAB a z a ha rfl, q1]
    exact ⟨by simp, q2⟩
/-- the slot's value is as it was -/
theorem RelX.put' (r : RelX K F P ρ σ H (A ++ B)) {i : Nat} {d : D} {n : Nat} {v : V} (hv : σ[i]? = some (some v)) (o : Own K F H n d v A) : RelX K F P (ρ.set i (some (d, n))) σ H B := by
  have hi : i < σ.length := (List.getElem?_eq_some_iff.mp hv).1
  have q := r.put (v := v) (by rw [r.1]; exact hi) o
  have e : σ.set i (some v) = σ := by
    have := (List.getElem?_eq_some_iff.mp hv).2
    rw [← this]
    exact List.set_getElem_self hi
  rw [e] at q
  exact q
/-- a slot is forgotten -/
theorem RelX.forget (r : RelX K F P ρ σ H A) (σ' : L2.St) (hl : σ'.length = σ.length) (ρ' : Env') (hl' : ρ'.length = ρ.length) (h : ∀ (i : Nat) (x : D × Nat), ρ'[i]? = some (some x) → ρ[i]? = some (some x) ∧ σ'[i]? = σ[i]?) : RelX K F P ρ' σ' H A := by
  obtain ⟨hl0, hd, hn, w, h1, h2, h3⟩ := r
  refine ⟨by omega, hd, hn, w, fun i d n e => ?_, h2, h3⟩
  obtain ⟨q1, q2⟩ := h i (d, n) e
  obtain ⟨v, B, e1, o, nd, hw⟩ := h1 i d n q1
  exact ⟨v, B, q2.trans e1, o, nd, hw⟩
theorem RelX.some_of (r : RelX K F P ρ σ H A) {i : Nat} (h : i < ρ.length) : i < σ.length := by rw [← r.1]; exact h
end
end DL

namespace DL
open PySem PySem.Spec PyProof.Rows L2

abbrev Exs := L2.St → XK
/-- what is wanted behind a piece of code that does not change the slots' values -/
def Post (X : Cx) (E : Exs) (F P : AS) (σ : L2.St) (H : Hp) {α : Type} (r : Res α) (ok : α → Prop) : Prop :=
  match r with
  | .ok a => ok a
  | .exc x ρ' => ∀ cls dx H' F', Step F P H F' H' → Rel X.K F' P ρ' σ H' → ExRep X.K X.mg F' H' x cls dx → E σ cls dx H'
  | .stuck => False
section
variable {X : Cx} {E : Exs} {F F1 P P1 : AS} {σ : L2.St} {H H1 : Hp} {α β : Type}
@[simp] theorem post_ok {a : α} {ok : α → Prop} : Post X E F P σ H (.ok a) ok = ok a := rfl
@[simp] theorem post_stuck {ok : α → Prop} : Post X E F P σ H (.stuck : Res α) ok = False := rfl
theorem Post.bind {r : Res α} {f : α → Res β} {ok : β → Prop} (h : Post X E F P σ H (r >>= f) ok) : Post X E F P σ H r fun a => Post X E F P σ H (f a) ok := by
  cases r with
  | ok a => exact h
  | exc x ρ => exact h
  | stuck => exact h
theorem RelX.lessP {K : PySem.W.Frag} {ρ : Env'} {A : List Addr} (r : RelX K F P1 ρ σ H A) (h : ∀ a, P a → P1 a) : RelX K F P ρ σ H A := by
  obtain ⟨hl, hd, hn, w, h1, h2, h3⟩ := r
  exact ⟨hl, fun a z => hd a (z.imp id (h a)), hn, w, h1, fun a i e => ⟨(h2 a i e).1, fun z => (h2 a i e).2.1 (h a z), (h2 a i e).2.2⟩, fun a ha => ⟨(h3 a ha).1, (h3 a ha).2.1, fun z => (h3 a ha).2.2 (h a z)⟩⟩
theorem Post.imp {r : Res α} {ok ok' : α → Prop} (h : Post X E F P σ H r ok) (st : Step F P H F1 H1) (hP : ∀ a, P a → P1 a) (ho : ∀ a, ok a → ok' a) : Post X E F1 P1 σ H1 r ok' := by
  cases r with
  | ok a => exact ho a h
  | exc x ρ => exact fun cls dx H' F' s' r' e' => h cls dx H' F' (st.trans (s'.less hP)) (r'.lessP hP) e'
  | stuck => exact h
theorem Post.same {r : Res α} {ok ok' : α → Prop} (h : Post X E F P σ H r ok) (ho : ∀ a, ok a → ok' a) : Post X E F P σ H r ok' := h.imp Step.refl (fun _ z => z) ho
end

/-- an expression: its value owned by nobody else -/
structure DE (X : Cx) (E : Exs) (e : Expr) (f : Env' → Res (D × Nat × Env')) : Prop where
  ex : ∃ t, PE X e t ∧ ∀ (ρ : Env') (F P : AS) (σ : L2.St) (H : Hp) (Q : VK), ρ.length = X.N.length → Rel X.K F P ρ σ H →
    Post X E F P σ H (f ρ) (fun r => ∀ v H' F' A, Step F P H F' H' → RelX X.K F' P r.2.2 σ H' A → Own X.K F' H' r.2.1 r.1 v A → Q v H') → t σ H Q
/-- an expression that leaves the heap as it is: its value may be a slot's -/
structure DP (X : Cx) (e : Expr) (f : Env' → Option (D × Nat)) : Prop where
  ex : ∃ t, PE X e t ∧ ∀ (ρ : Env') (F P : AS) (σ : L2.St) (H : Hp) (Q : VK) (d : D) (n : Nat), ρ.length = X.N.length → Rel X.K F P ρ σ H →
    f ρ = some (d, n) → (∀ v A, Own X.K F H n d v A → Q v H) → t σ H Q
/-- an expression whose value is used at once -/
structure D1 (X : Cx) (E : Exs) (e : Expr) (f : Env' → Res (D × Nat × Env')) : Prop where
  ex : ∃ t, PE X e t ∧ ∀ (ρ : Env') (F P : AS) (σ : L2.St) (H : Hp) (Q : VK), ρ.length = X.N.length → Rel X.K F P ρ σ H →
    Post X E F P σ H (f ρ) (fun r => ∀ v H' F' A, Step F P H F' H' → Rel X.K F' P r.2.2 σ H' → Own X.K F' H' r.2.1 r.1 v A → Q v H') → t σ H Q
/-- two of them -/
structure D2 (X : Cx) (E : Exs) (a b : Expr) (f : Env' → Res ((D × Nat) × (D × Nat) × Env')) : Prop where
  ex : ∃ ta tb, PE X a ta ∧ PE X b tb ∧ ∀ (ρ : Env') (F P : AS) (σ : L2.St) (H : Hp) (R : V → V → Hp → Prop), ρ.length = X.N.length → Rel X.K F P ρ σ H →
    Post X E F P σ H (f ρ) (fun r => ∀ v u H' F' A B, Step F P H F' H' → Rel X.K F' P r.2.2 σ H' → Own X.K F' H' r.1.2 r.1.1 v A → Own X.K F' H' r.2.1.2 r.2.1.1 u B → R v u H') → ta σ H fun x H1 => tb σ H1 fun y H2 => R x y H2
/-- arguments, each frozen -/
structure DA (X : Cx) (E : Exs) (es : List Expr) (f : Env' → Res (List D × Env')) : Prop where
  ex : ∃ t, PA X es t ∧ ∀ (ρ : Env') (F P : AS) (σ : L2.St) (H : Hp) (Q : List V → Hp → Prop), ρ.length = X.N.length → Rel X.K F P ρ σ H →
    Post X E F P σ H (f ρ) (fun r => ∀ vs H' F', Step F P H F' H' → Rel X.K F' P r.2 σ H' → RepL X.K F' H' r.1 vs → Q vs H') → t σ H Q
/-- arguments that are used at once -/
structure DC (X : Cx) (E : Exs) (es : List Expr) (f : Env' → Res (List (D × Nat) × Env')) : Prop where
  ex : ∃ t, PA X es t ∧ ∀ (ρ : Env') (F P : AS) (σ : L2.St) (H : Hp) (Q : List V → Hp → Prop), ρ.length = X.N.length → Rel X.K F P ρ σ H →
    Post X E F P σ H (f ρ) (fun r => ∀ vs H' F', Step F P H F' H' → Rel X.K F' P r.2 σ H' → Paired (fun (d : D × Nat) v => ∃ A, Own X.K F' H' d.2 d.1 v A) r.1 vs → Q vs H') → t σ H Q
/-- .. none of which changes the heap -/
structure DCp (X : Cx) (es : List Expr) (f : Env' → Option (List (D × Nat))) : Prop where
  ex : ∃ t, PA X es t ∧ ∀ (ρ : Env') (F P : AS) (σ : L2.St) (H : Hp) (Q : List V → Hp → Prop) (ds : List (D × Nat)), ρ.length = X.N.length → Rel X.K F P ρ σ H →
    f ρ = some ds → (∀ vs, Paired (fun (d : D × Nat) v => ∃ A, Own X.K F H d.2 d.1 v A) ds vs → Q vs H) → t σ H Q
/-- a test -/
structure DT (X : Cx) (E : Exs) (e : Expr) (f : Env' → Res (Bool × Env')) : Prop where
  ex : ∃ t, PT X e t ∧ ∀ (ρ : Env') (F P : AS) (σ : L2.St) (H : Hp) (Q : Bool → Hp → Prop), ρ.length = X.N.length → Rel X.K F P ρ σ H →
    Post X E F P σ H (f ρ) (fun r => ∀ H' F', Step F P H F' H' → Rel X.K F' P r.2 σ H' → Q r.1 H') → t σ H Q
structure DW (X : Cx) (E : Exs) (e : Expr) (f : Env' → Res (Bool × Env')) : Prop where
  ex : ∃ t, PW X e t ∧ ∀ (ρ : Env') (F P : AS) (σ : L2.St) (H : Hp) (Q : Bool → Hp → Prop), ρ.length = X.N.length → Rel X.K F P ρ σ H →
    Post X E F P σ H (f ρ) (fun r => ∀ H' F', Step F P H F' H' → Rel X.K F' P r.2 σ H' → Q r.1 H') → t σ H Q
/-- a target; vs: the slots that it writes -/
structure DG (X : Cx) (tg : Expr) (vs : List Nat) (g : D → Nat → Env' → Res Env') : Prop where
  ex : ∃ t, PG X tg t ∧ ∀ (ρ ρ' : Env') (F P : AS) (σ : L2.St) (H : Hp) (v : V) (d : D) (n : Nat) (A : List Addr) (Q : L2.St → Hp → Prop), ρ.length = X.N.length → RelX X.K F P ρ σ H A → Own X.K F H n d v A →
    g d n ρ = .ok ρ' → (∀ σ' F' H', (σ'.length = σ.length ∧ ∀ j, j ∉ vs → σ'[j]? = σ[j]?) → Step F P H F' H' → Rel X.K F' P ρ' σ' H' → Q σ' H') → t v σ H Q
inductive Fl where
  | nx | bk | ct
  | rt (d : D) (n : Nat)
/-- the slots that are not to be written stand -/
def SK (W : Nat → Bool) (σ σ' : L2.St) : Prop := ∀ j, W j = false → σ'[j]? = σ[j]?
theorem SK.refl {W : Nat → Bool} {σ : L2.St} : SK W σ σ := fun _ _ => rfl
theorem SK.trans {W : Nat → Bool} {σ σ1 σ2 : L2.St} (a : SK W σ σ1) (b : SK W σ1 σ2) : SK W σ σ2 := fun j h => (b j h).trans (a j h)
/-- what is wanted behind a statement -/
def PostS (X : Cx) (E : Exs) (W : Nat → Bool) (F P : AS) (σ : L2.St) (H : Hp) (Dn : Ends) (r : Res (Fl × Env')) : Prop :=
  match r with
  | .ok (.nx, ρ') => ∀ σ' H' F', SK W σ σ' → Step F P H F' H' → Rel X.K F' P ρ' σ' H' → ρ'.length = X.N.length → Dn.nx σ' H'
  | .ok (.bk, ρ') => ∀ σ' H' F', SK W σ σ' → Step F P H F' H' → Rel X.K F' P ρ' σ' H' → ρ'.length = X.N.length → Dn.bk σ' H'
  | .ok (.ct, ρ') => ∀ σ' H' F', SK W σ σ' → Step F P H F' H' → Rel X.K F' P ρ' σ' H' → ρ'.length = X.N.length → Dn.ct σ' H'
  | .ok (.rt d n, ρ') => ∀ σ' v H' F' A, SK W σ σ' → Step F P H F' H' → RelX X.K F' P ρ' σ' H' A → Own X.K F' H' n d v A → Dn.rt v H'
  | .exc x ρ' => ∀ σ' cls dx H' F', Step F P H F' H' → Rel X.K F' P ρ' σ' H' → ExRep X.K X.mg F' H' x cls dx → E σ' cls dx H'
  | .stuck => False
structure DS (X : Cx) (E : Exs) (W : Nat → Bool) (s : Stmt) (f : Env' → Res (Fl × Env')) : Prop where
  ex : ∃ t, PS X s t ∧ ∀ (ρ : Env') (F P : AS) (σ : L2.St) (H : Hp) (Dn : Ends), ρ.length = X.N.length → Rel X.K F P ρ σ H → PostS X E W F P σ H Dn (f ρ) → t Dn σ H
structure DSs (X : Cx) (E : Exs) (W : Nat → Bool) (s : List Stmt) (f : Env' → Res (Fl × Env')) : Prop where
  ex : ∃ t, PSs X s t ∧ ∀ (ρ : Env') (F P : AS) (σ : L2.St) (H : Hp) (Dn : Ends), ρ.length = X.N.length → Rel X.K F P ρ σ H → PostS X E W F P σ H Dn (f ρ) → t Dn σ H

section
variable {X : Cx} {E : Exs} {W : Nat → Bool} {F F1 P P1 : AS} {σ σ1 : L2.St} {H H1 : Hp} {α : Type}
/-- from an expression's end to a statement's -/
theorem PostS.of {r : Res α} {f : α → Res (Fl × Env')} {Dn : Ends} (h : PostS X E W F P σ H Dn (r >>= f)) : Post X E F P σ H r fun a => PostS X E W F P σ H Dn (f a) := by
  cases r with
  | ok a => exact h
  | exc x ρ => exact fun cls dx H' F' s' r' e' => h σ cls dx H' F' s' r' e'
  | stuck => exact h
theorem PostS.imp {r : Res (Fl × Env')} {Dn : Ends} (h : PostS X E W F P σ H Dn r) (st : Step F P H F1 H1) (k : SK W σ σ1) : PostS X E W F1 P σ1 H1 Dn r := by
  cases r with
  | ok a =>
    obtain ⟨fl, ρ⟩ := a
    cases fl with
    | nx => exact fun σ' H' F' k' s' => h σ' H' F' (k.trans k') (st.trans s')
    | bk => exact fun σ' H' F' k' s' => h σ' H' F' (k.trans k') (st.trans s')
    | ct => exact fun σ' H' F' k' s' => h σ' H' F' (k.trans k') (st.trans s')
    | rt d n => exact fun σ' v H' F' A k' s' => h σ' v H' F' A (k.trans k') (st.trans s')
  | exc x ρ => exact fun σ' cls dx H' F' s' => h σ' cls dx H' F' (st.trans s')
  | stuck => exact h
theorem rel_len {K : PySem.W.Frag} {ρ ρ' : Env'} {F' P' : AS} {H' : Hp} {A B : List Addr} {n : Nat} (r : RelX K F P ρ σ H A) (l : ρ.length = n) (r' : RelX K F' P' ρ' σ H' B) : ρ'.length = n := by rw [r'.1, ← r.1, l]
end
end DL

namespace DL
open PySem PySem.Spec PyProof.Rows L2

/-! ### what a value is, by its tree -/
section
variable {K : PySem.W.Frag} {F : AS} {H : Hp} {n : Nat} {v : V} {A : List Addr}
theorem own_still {d : D} (h : Own K F H n d v A) (s : still d = true) : A = [] ∧ Rep K F H d v := h.still (.inr s)
theorem own_int {i : Int} (h : Own K F H n (.int i) v A) : v = .int i := by obtain ⟨_, r⟩ := own_still h rfl; cases r; rfl
theorem own_bool {i : Bool} (h : Own K F H n (.bool i) v A) : v = .bl i := by obtain ⟨_, r⟩ := own_still h rfl; cases r; rfl
theorem own_str {i : Str} (h : Own K F H n (.str i) v A) : v = .str i := by obtain ⟨_, r⟩ := own_still h rfl; cases r; rfl
theorem own_none (h : Own K F H n .none v A) : v = .non := by obtain ⟨_, r⟩ := own_still h rfl; cases r; rfl
theorem rep_tuple {ds : List D} (r : Rep K F H (.tuple ds) v) : ∃ a vs, v = .ref a ∧ SqT K H a vs ∧ RepL K F H ds vs := by
  cases r with
  | tup r l => exact ⟨_, _, rfl, .inl (.inl r), l⟩
  | ktup k l => exact ⟨_, _, rfl, .inr k, l⟩
theorem own_tuple {ds : List D} (h : Own K F H n (.tuple ds) v A) : ∃ a vs, v = .ref a ∧ SqT K H a vs ∧ RepL K F H ds vs := rep_tuple (own_still h rfl).2
theorem rep_list {ds : List D} (r : Rep K F H (.list ds) v) : ∃ a vs, v = .ref a ∧ ((F a ∧ Rd H a (.lst vs)) ∨ KLst K a vs) ∧ RepL K F H ds vs := by
  cases r with
  | lst f r l => exact ⟨_, _, rfl, .inl ⟨f, r⟩, l⟩
  | klst k l => exact ⟨_, _, rfl, .inr k, l⟩
theorem lst_sq {a : Addr} {vs : List V} (h : (F a ∧ Rd H a (.lst vs)) ∨ KLst K a vs) : SqL K H a vs := h.imp (·.2) id
theorem own_list {ds : List D} (h : Own K F H n (.list ds) v A) : ∃ a vs B, v = .ref a ∧ SqL K H a vs ∧ AllOwn (Own K F H (n - 1)) ds vs B := by
  cases n with
  | zero =>
    obtain ⟨a, vs, e, r, l⟩ := rep_list h.2
    exact ⟨a, vs, [], e, lst_sq r, AllOwn.of_rep l⟩
  | succ n =>
    rcases h with ⟨_, s, _⟩ | ⟨ds', a, vs, B, e, ev, e1, _, l⟩ | ⟨_, _, _, e, _⟩ | ⟨_, _, _, e, _⟩
    · cases s
    · cases e; exact ⟨a, vs, B, ev, .inl (.inl e1), l⟩
    · cases e
    · cases e
theorem own_list1 {ds : List D} (h : Own K F H n (.list ds) v A) (hn : n ≤ 1) : ∃ a vs, v = .ref a ∧ SqL K H a vs ∧ RepL K F H ds vs := by
  obtain ⟨a, vs, B, e, r, l⟩ := own_list h
  have : n - 1 = 0 := by omega
  rw [this] at l
  exact ⟨a, vs, e, r, l.nil_of.2⟩
theorem AllOwn.get {P : D → V → List Addr → Prop} : ∀ {ds : List D} {vs : List V} {A : List Addr} {i : Nat} {d : D}, AllOwn P ds vs A → ds[i]? = some d → ∃ v B, vs[i]? = some v ∧ P d v B ∧ ∀ a ∈ B, a ∈ A
  | _, _, _, _, _, .nil, e => by simp at e
  | _, _, _, 0, _, .cons h _, e => by simp at e; subst e; exact ⟨_, _, rfl, h, fun a ha => List.mem_append_left _ ha⟩
  | _, _, _, i + 1, d, .cons _ t, e => by
    obtain ⟨v, B, h1, h2, h3⟩ := AllOwn.get (i := i) (d := d) t (by simpa using e)
    exact ⟨v, B, by simpa using h1, h2, fun a ha => List.mem_append_right _ (h3 a ha)⟩
end

/-! ### to PyData's own readings (for ==, in) -/
section
variable {K : PySem.W.Frag} {F : AS} {H : Hp}
theorem KTup.sq {a : Addr} {vs : List V} (k : KTup K a vs) : SqT K H a vs := .inr k
theorem Rd.sqL {a : Addr} {vs : List V} (k : Rd H a (.lst vs)) : SqL K H a vs := .inl k
def noDict : D → Bool
  | .dict _ => false
  | .list ds => noDictL ds
  | .tuple ds => noDictL ds
  | _ => true
where noDictL : List D → Bool
  | [] => true
  | d :: ds => noDict d && noDictL ds
mutual
theorem Rep.dp : ∀ {d : D} {v : V}, Rep K F H d v → noDict d = true → Dp K H v d
  | _, _, .non, _ => .non
  | _, _, .bl b, _ => .bl b
  | _, _, .int i, _ => .int i
  | _, _, .str x, _ => .str x
  | _, _, .lst f r l, h => .lst (.inl r) (RepL.dp l h)
  | _, _, .klst r l, h => .lst (.inr r) (RepL.dp l h)
  | _, _, .tup r l, h => .tup (.inl (.inl r)) (RepL.dp l h)
  | _, _, .ktup k l, h => .tup (.inr k) (RepL.dp l h)
  | _, _, .dK _ _ _, h => by cases h
  | _, _, .dT _ _ _, h => by cases h
theorem RepL.dp : ∀ {d : List D} {v : List V}, RepL K F H d v → noDict.noDictL d = true → DpAll K H v d
  | _, _, .nil, _ => .nil
  | _, _, .cons h t, e => by
    have e' := Bool.and_eq_true_iff.mp e
    exact .cons (Rep.dp h e'.1) (RepL.dp t e'.2)
end
theorem AllOwn.dp {n : Nat} (ih : ∀ {d v A}, Own K F H n d v A → noDict d = true → Dp K H v d) : ∀ {ds : List D} {vs : List V} {A : List Addr}, AllOwn (Own K F H n) ds vs A → noDict.noDictL ds = true → DpAll K H vs ds
  | _, _, _, .nil, _ => .nil
  | _, _, _, .cons h t, e => by
    have e' := Bool.and_eq_true_iff.mp e
    exact .cons (ih h e'.1) (AllOwn.dp ih t e'.2)
theorem Own.dp : ∀ {n : Nat} {d : D} {v : V} {A : List Addr}, Own K F H n d v A → noDict d = true → Dp K H v d
  | 0, _, _, _, h, e => h.2.dp e
  | n + 1, d, v, A, h, e => by
    rcases h with ⟨_, _, r⟩ | ⟨ds', a, vs, B, e0, ev, e1, _, l⟩ | ⟨_, _, _, e0, _⟩ | ⟨_, _, _, e0, _⟩
    · exact r.dp e
    · subst e0 ev
      exact .lst (.inl (.inl e1)) (AllOwn.dp (fun o h => Own.dp o h) l e)
    · subst e0; cases e
    · subst e0; cases e
end

/-! ### D-level pieces -/
def getS (ρ : Env') (i : Nat) : Option (D × Nat) := match ρ[i]? with
  | some (some x) => some x
  | _ => none
def liftO {α : Type} (r : Option α) : Res α := match r with
  | some a => .ok a
  | none => .stuck
def frzS (ρ : Env') (i : Nat) : Res (D × Nat × Env') := match ρ[i]? with
  | some (some (d, n)) => .ok (d, 0, if n = 0 then ρ else ρ.set i (some (d, 0)))
  | _ => .stuck
/-- a place's value as one's own -/
def upD (r : Option (D × Nat)) (ρ : Env') : Res (D × Nat × Env') := match r with
  | some x => if x.2 = 0 ∨ still x.1 = true then .ok (x.1, 0, ρ) else .stuck
  | none => .stuck

section
variable {X : Cx} {E : Exs} {pos : Pos} {e a b : Expr}

/-! ### constants, names -/
theorem dp_int {i : Int} {j pos} : DP X (.Constant (.int i) j pos) fun _ => some (.int i, 0) :=
  ⟨_, pe_int, fun ρ F P σ H Q d n hl r h q => by cases h; exact q _ [] ⟨rfl, .int i⟩⟩
theorem dp_bool {i : Bool} {j pos} : DP X (.Constant (.bool i) j pos) fun _ => some (.bool i, 0) :=
  ⟨_, pe_bl, fun ρ F P σ H Q d n hl r h q => by cases h; exact q _ [] ⟨rfl, .bl i⟩⟩
theorem dp_none {j pos} : DP X (.Constant .none j pos) fun _ => some (.none, 0) :=
  ⟨_, pe_non, fun ρ F P σ H Q d n hl r h q => by cases h; exact q _ [] ⟨rfl, .non⟩⟩
theorem dp_str {i : Str} {j pos} : DP X (.Constant (.str i) j pos) fun _ => some (.str i, 0) :=
  ⟨_, pe_str, fun ρ F P σ H Q d n hl r h q => by cases h; exact q _ [] ⟨rfl, .str i⟩⟩
theorem dp_var (i : Nat) {x : Str} {pos : Pos} (hN : X.N[i]? = some x := by rfl) (hv : Vis X.env.scope x := by first | exact Or.inl rfl | exact Or.inr (Or.inl rfl) | exact Or.inr (Or.inr rfl)) (hd : (x == ("__debug__" : Str)) = false := by decide)
    (hcd : (x == ("__classdict__" : Str)) = false := by decide) : DP X (.Name x pos) fun ρ => getS ρ i :=
  ⟨_, pe_var hN hv hd hcd, fun ρ F P σ H Q d n hl r h q => by
    have e : ρ[i]? = some (some (d, n)) := by
      unfold getS at h
      split at h
      · rename_i x hx; cases h; exact hx
      · cases h
    obtain ⟨v, B, e1, o, _⟩ := r.slot e
    exact ⟨v, e1, q v B o⟩⟩
/-- a slot's value, from now on frozen -/
theorem de_var (i : Nat) {x : Str} {pos : Pos} (hN : X.N[i]? = some x := by rfl) (hv : Vis X.env.scope x := by first | exact Or.inl rfl | exact Or.inr (Or.inl rfl) | exact Or.inr (Or.inr rfl)) (hd : (x == ("__debug__" : Str)) = false := by decide)
    (hcd : (x == ("__classdict__" : Str)) = false := by decide) : DE X E (.Name x pos) fun ρ => frzS ρ i :=
  ⟨_, pe_var hN hv hd hcd, fun ρ F P σ H Q hl r h => by
    unfold frzS at h
    split at h
    · rename_i d n hx
      by_cases hn : n = 0
      · subst hn
        rw [if_pos rfl] at h
        obtain ⟨v, B, e1, o, _⟩ := r.slot hx
        obtain ⟨rfl, rp⟩ := o
        exact ⟨v, e1, h v H F [] Step.refl r ⟨rfl, rp⟩⟩
      · rw [if_neg hn] at h
        obtain ⟨v, F', e1, rp, st, r'⟩ := r.freezeSlot hx
        exact ⟨v, e1, h v H F' [] st r' ⟨rfl, rp⟩⟩
    · exact h.elim⟩
theorem dp_glob {x : Str} {v : V} {u : Value} {d : D} {pos : Pos} (hg : Gl X x) (hm : X.mg x = some u) (r : RelV v u) (hr : ∀ F H, Rep X.K F H d v) (hd : (x == ("__debug__" : Str)) = false := by decide) : DP X (.Name x pos) fun _ => some (d, 0) :=
  ⟨_, pe_glob hg hm r hd, fun ρ F P σ H Q d' n hl rr h q => by cases h; exact q _ [] ⟨rfl, hr F H⟩⟩

/-! ### between the judgements -/
theorem de_dp {f : Env' → Option (D × Nat)} (h : DP X e f) : DE X E e fun ρ => upD (f ρ) ρ := by
  obtain ⟨t, pe, hp⟩ := h
  refine ⟨t, pe, fun ρ F P σ H Q hl r h => ?_⟩
  unfold upD at h
  cases hf : f ρ with
  | some x =>
    rw [hf] at h
    have h : Post X E F P σ H (if x.2 = 0 ∨ still x.1 = true then Res.ok (x.1, 0, ρ) else Res.stuck) _ := h
    by_cases c : x.2 = 0 ∨ still x.1 = true
    · rw [if_pos c] at h
      refine hp ρ F P σ H Q x.1 x.2 hl r hf fun v A o => ?_
      obtain ⟨_, rp⟩ := o.still c
      exact h v H F [] Step.refl r ⟨rfl, rp⟩
    · rw [if_neg c] at h; exact h.elim
  | none => rw [hf] at h; exact h.elim
theorem d1_dp {f : Env' → Option (D × Nat)} (h : DP X e f) : D1 X E e fun ρ => liftO (f ρ) >>= fun x => .ok (x.1, x.2, ρ) := by
  obtain ⟨t, pe, hp⟩ := h
  refine ⟨t, pe, fun ρ F P σ H Q hl r h => ?_⟩
  cases hf : f ρ with
  | some x =>
    rw [hf] at h
    exact hp ρ F P σ H Q x.1 x.2 hl r hf fun v A o => h v H F A Step.refl r o
  | none => rw [hf] at h; exact h.elim
theorem d1_de {f : Env' → Res (D × Nat × Env')} (h : DE X E e f) : D1 X E e f := by
  obtain ⟨t, pe, hp⟩ := h
  exact ⟨t, pe, fun ρ F P σ H Q hl r h => hp ρ F P σ H Q hl r (h.same fun a q v H' F' A st rr o => q v H' F' A st rr.drop o)⟩
/-- two operands, the first one's own -/
theorem d2_e {f g : Env' → Res (D × Nat × Env')} (ha : DE X E a f) (hb : D1 X E b g) : D2 X E a b fun ρ => f ρ >>= fun x => g x.2.2 >>= fun y => .ok ((x.1, x.2.1), (y.1, y.2.1), y.2.2) := by
  obtain ⟨ta, pa, qa⟩ := ha
  obtain ⟨tb, pb, qb⟩ := hb
  refine ⟨ta, tb, pa, pb, fun ρ F P σ H R hl r h => qa ρ F P σ H _ hl r (h.bind.same fun x hx v H1 F1 A st1 r1 o1 => ?_)⟩
  have hA : ∀ a ∈ A, ¬ F1 a ∧ ¬ P a := fun a ha => r1.2.2.2.elim fun w q => (q.2.2 a ha).2
  refine qb x.2.2 F1 (fun a => P a ∨ a ∈ A) σ H1 _ (rel_len r hl r1) (r1.hold o1.there) ?_
  refine (hx.bind.imp st1 (fun a z => .inl z) fun y hy u H2 F2 B st2 r2 o2 => ?_)
  have st2' := st2.less (P := P) fun _ z => .inl z
  exact hy v u H2 F2 A B (st1.trans st2') (r2.lessP fun _ z => .inl z) (o1.mono st2.grow fun a ha => st2.prot a (.inr ha)) o2
/-- two operands that leave the heap as it is -/
theorem d2_p {f g : Env' → Option (D × Nat)} (ha : DP X a f) (hb : DP X b g) : D2 X E a b fun ρ => liftO (f ρ) >>= fun x => liftO (g ρ) >>= fun y => .ok (x, y, ρ) := by
  obtain ⟨ta, pa, qa⟩ := ha
  obtain ⟨tb, pb, qb⟩ := hb
  refine ⟨ta, tb, pa, pb, fun ρ F P σ H R hl r h => ?_⟩
  cases hf : f ρ with
  | some x =>
    rw [hf] at h
    cases hg : g ρ with
    | some y =>
      rw [hg] at h
      exact qa ρ F P σ H _ x.1 x.2 hl r hf fun v A o1 => qb ρ F P σ H _ y.1 y.2 hl r hg fun u B o2 => h v u H F A B Step.refl r o1 o2
    | none => rw [hg] at h; exact h.elim
  | none => rw [hf] at h; exact h.elim

/-! ### argument lists -/
theorem da_nil : DA X E [] fun ρ => .ok ([], ρ) := ⟨_, pa_nil, fun ρ F P σ H Q hl r h => h [] H F Step.refl r .nil⟩
theorem da_cons {es : List Expr} {f : Env' → Res (D × Nat × Env')} {g : Env' → Res (List D × Env')} (ha : DE X E a f) (hb : DA X E es g) (hs : starEach (a :: es) X.env = (false, eval a X.env) :: starEach es X.env := by rfl) :
    DA X E (a :: es) fun ρ => f ρ >>= fun x => g x.2.2 >>= fun y => .ok (x.1 :: y.1, y.2) := by
  obtain ⟨ta, pa, qa⟩ := ha
  obtain ⟨tb, pb, qb⟩ := hb
  refine ⟨_, pa_cons pa pb hs, fun ρ F P σ H Q hl r h => ?_⟩
  refine qa ρ F P σ H _ hl r (h.bind.same fun x hx v H1 F1 A st1 r1 o1 => ?_)
  obtain ⟨st2, r2⟩ := r1.freeze o1.there
  refine qb x.2.2 _ P σ H1 _ (rel_len r hl r1) r2 ?_
  refine (hx.bind.imp (st1.trans st2) (fun a z => z) fun y hy vs H3 F3 st3 r3 l => ?_)
  exact hy (v :: vs) H3 F3 ((st1.trans st2).trans st3) r3 (.cons ((o1.rep (F' := fun a => F1 a ∨ a ∈ A) (fun a h => .inl h) fun a h => .inr h).mono st3.grow) l)
theorem dcp_nil : DCp X [] fun ρ => some [] := ⟨_, pa_nil, fun ρ F P σ H Q ds hl r h q => by cases h; exact q [] .nil⟩
theorem dcp_cons {es : List Expr} {f : Env' → Option (D × Nat)} {g : Env' → Option (List (D × Nat))} (ha : DP X a f) (hb : DCp X es g) (hs : starEach (a :: es) X.env = (false, eval a X.env) :: starEach es X.env := by rfl) :
    DCp X (a :: es) fun ρ => (f ρ).bind fun x => (g ρ).bind fun y => some (x :: y) := by
  obtain ⟨ta, pa, qa⟩ := ha
  obtain ⟨tb, pb, qb⟩ := hb
  refine ⟨_, pa_cons pa pb hs, fun ρ F P σ H Q ds hl r h q => ?_⟩
  cases hf : f ρ with
  | some x =>
    rw [hf] at h
    cases hg : g ρ with
    | some y =>
      rw [hg] at h
      cases h
      exact qa ρ F P σ H _ x.1 x.2 hl r hf fun v A o1 => qb ρ F P σ H _ y hl r hg fun vs l => q (v :: vs) (.cons ⟨A, o1⟩ l)
    | none => rw [hg] at h; cases h
  | none => rw [hf] at h; cases h
theorem dc_p {es : List Expr} {f : Env' → Option (List (D × Nat))} (h : DCp X es f) : DC X E es fun ρ => liftO (f ρ) >>= fun x => .ok (x, ρ) := by
  obtain ⟨t, pe, hp⟩ := h
  refine ⟨t, pe, fun ρ F P σ H Q hl r h => ?_⟩
  cases hf : f ρ with
  | some x =>
    rw [hf] at h
    exact hp ρ F P σ H Q x hl r hf fun vs l => h vs H F Step.refl r l
  | none => rw [hf] at h; exact h.elim
theorem dc_nil : DC X E [] fun ρ => .ok ([], ρ) := ⟨_, pa_nil, fun ρ F P σ H Q hl r h => h [] H F Step.refl r .nil⟩
theorem dc_cons {es : List Expr} {f : Env' → Res (D × Nat × Env')} {g : Env' → Res (List (D × Nat) × Env')} (ha : DE X E a f) (hb : DC X E es g) (hs : starEach (a :: es) X.env = (false, eval a X.env) :: starEach es X.env := by rfl) :
    DC X E (a :: es) fun ρ => f ρ >>= fun x => g x.2.2 >>= fun y => .ok ((x.1, x.2.1) :: y.1, y.2) := by
  obtain ⟨ta, pa, qa⟩ := ha
  obtain ⟨tb, pb, qb⟩ := hb
  refine ⟨_, pa_cons pa pb hs, fun ρ F P σ H Q hl r h => ?_⟩
  refine qa ρ F P σ H _ hl r (h.bind.same fun x hx v H1 F1 A st1 r1 o1 => ?_)
  refine qb x.2.2 F1 (fun a => P a ∨ a ∈ A) σ H1 _ (rel_len r hl r1) (r1.hold o1.there) ?_
  refine (hx.bind.imp st1 (fun a z => .inl z) fun y hy vs H2 F2 st2 r2 l => ?_)
  exact hy (v :: vs) H2 F2 (st1.trans (st2.less fun _ z => .inl z)) (r2.lessP fun _ z => .inl z) (.cons ⟨A, o1.mono st2.grow fun a ha => st2.prot a (.inr ha)⟩ l)
end
end DL

namespace DL
open PySem PySem.Spec PyProof.Rows L2

/-! ### operators by values -/
def OpP (X : Cx) (f : Value → Value → Sem Value) (g : D → D → Option D) : Prop :=
  ∃ r, OpR X f r ∧ ∀ (F : AS) (H : Hp) (x y : V) (da db d : D) (na nb : Nat) (A B : List Addr) (Q : VK), Own X.K F H na da x A → Own X.K F H nb db y B → g da db = some d → (∀ v, Rep X.K F H d v → Q v H) → r x y H Q
def OpD (X : Cx) (f : Value → Value → Sem Value) (g : D × Nat → D × Nat → Option (D × Nat)) : Prop :=
  ∃ r, OpR X f r ∧ ∀ (F : AS) (H : Hp) (x y : V) (a b c : D × Nat) (A B : List Addr) (Q : VK), (∀ a, F a → H a ≠ none) → Own X.K F H a.2 a.1 x A → Own X.K F H b.2 b.1 y B → g a b = some c →
    (∀ v H' F' C, Alloc F H F' H' C → Own X.K F' H' c.2 c.1 v C → Q v H') → r x y H Q
theorem OpP.d {X : Cx} {f : Value → Value → Sem Value} {g : D → D → Option D} (h : OpP X f g) : OpD X f fun a b => (g a.1 b.1).map fun d => (d, 0) := by
  obtain ⟨r, ho, h⟩ := h
  refine ⟨r, ho, fun F H x y a b c A B Q hd o1 o2 e q => ?_⟩
  dsimp only at e
  cases hg : g a.1 b.1 with
  | none => rw [hg] at e; cases e
  | some d =>
    rw [hg] at e
    cases e
    exact h F H x y _ _ d _ _ A B Q o1 o2 hg fun v rp => q v H F [] (Alloc.refl hd) ⟨rfl, rp⟩
/-- either -/
theorem OpD.or {X : Cx} {f : Value → Value → Sem Value} {g g' : D × Nat → D × Nat → Option (D × Nat)} (h : OpD X f g) (h' : OpD X f g') : OpD X f fun a b => (g a b).or (g' a b) := by
  obtain ⟨r, ho, h⟩ := h
  obtain ⟨r', ho', h'⟩ := h'
  refine ⟨_, ho.or ho', fun F H x y a b c A B Q hd o1 o2 e q => ?_⟩
  dsimp only at e
  cases hg : g a b with
  | none => rw [hg] at e; exact .inr (h' F H x y a b c A B Q hd o1 o2 e q)
  | some d => rw [hg] at e; exact .inl (h F H x y a b c A B Q hd o1 o2 (hg.trans e) q)
theorem OpP.or {X : Cx} {f : Value → Value → Sem Value} {g g' : D → D → Option D} (h : OpP X f g) (h' : OpP X f g') : OpP X f fun a b => (g a b).or (g' a b) := by
  obtain ⟨r, ho, h⟩ := h
  obtain ⟨r', ho', h'⟩ := h'
  refine ⟨_, ho.or ho', fun F H x y da db d na nb A B Q o1 o2 e q => ?_⟩
  dsimp only at e
  cases hg : g da db with
  | none => rw [hg] at e; exact .inr (h' F H x y da db d na nb A B Q o1 o2 e q)
  | some d' => rw [hg] at e; exact .inl (h F H x y da db d na nb A B Q o1 o2 (hg.trans e) q)

section
variable {X : Cx} {E : Exs} {pos : Pos} {e a b c : Expr}
theorem dp_bin {op : Operator} {g : D → D → Option D} {f f' : Env' → Option (D × Nat)} (ho : OpP X (binaryOp op) g) (ha : DP X a f) (hb : DP X b f') : DP X (.BinOp a op b pos) fun ρ => (f ρ).bind fun x => (f' ρ).bind fun y => (g x.1 y.1).map fun d => (d, 0) := by
  obtain ⟨r, hr, h⟩ := ho
  obtain ⟨ta, pa, qa⟩ := ha
  obtain ⟨tb, pb, qb⟩ := hb
  refine ⟨_, pe_op hr pa pb, fun ρ F P σ H Q d n hl rr e q => ?_⟩
  cases hf : f ρ with
  | none => rw [hf] at e; cases e
  | some x =>
    rw [hf] at e
    cases hf' : f' ρ with
    | none => rw [hf'] at e; cases e
    | some y =>
      rw [hf'] at e
      simp only [Option.bind_some] at e
      cases hg : g x.1 y.1 with
      | none => rw [hg] at e; cases e
      | some d' =>
        rw [hg] at e
        cases e
        exact qa ρ F P σ H _ x.1 x.2 hl rr hf fun v A o1 => qb ρ F P σ H _ y.1 y.2 hl rr hf' fun u B o2 => h F H v u _ _ _ _ _ A B Q o1 o2 hg fun v rp => q v [] ⟨rfl, rp⟩
/-- the shared end of operators -/
theorem opd_end {g : D × Nat → D × Nat → Option (D × Nat)} {f : Env' → Res ((D × Nat) × (D × Nat) × Env')} {ta tb : TE} {r : R2}
    (h : ∀ (F : AS) (H : Hp) (x y : V) (a b c : D × Nat) (A B : List Addr) (Q : VK), (∀ a, F a → H a ≠ none) → Own X.K F H a.2 a.1 x A → Own X.K F H b.2 b.1 y B → g a b = some c →
      (∀ v H' F' C, Alloc F H F' H' C → Own X.K F' H' c.2 c.1 v C → Q v H') → r x y H Q)
    (q2 : ∀ (ρ : Env') (F P : AS) (σ : L2.St) (H : Hp) (R : V → V → Hp → Prop), ρ.length = X.N.length → Rel X.K F P ρ σ H →
      Post X E F P σ H (f ρ) (fun r => ∀ v u H' F' A B, Step F P H F' H' → Rel X.K F' P r.2.2 σ H' → Own X.K F' H' r.1.2 r.1.1 v A → Own X.K F' H' r.2.1.2 r.2.1.1 u B → R v u H') → ta σ H fun x H1 => tb σ H1 fun y H2 => R x y H2)
    {ρ : Env'} {F P : AS} {σ : L2.St} {H : Hp} {Q : VK} (hl : ρ.length = X.N.length) (rr : Rel X.K F P ρ σ H)
    (hh : Post X E F P σ H (f ρ >>= fun s => liftO (g s.1 s.2.1) >>= fun d => Res.ok (d.1, d.2, s.2.2)) (fun r => ∀ v H' F' A, Step F P H F' H' → RelX X.K F' P r.2.2 σ H' A → Own X.K F' H' r.2.1 r.1 v A → Q v H')) :
    ta σ H fun x H1 => tb σ H1 fun y H2 => r x y H2 Q := by
  refine q2 ρ F P σ H _ hl rr (hh.bind.same fun s hs v u H1 F1 A B st r1 o1 o2 => ?_)
  cases hg : g s.1 s.2.1 with
  | none => rw [hg] at hs; exact hs.elim
  | some d =>
    rw [hg] at hs
    exact h F1 H1 v u _ _ d A B Q (fun a z => r1.dom a (.inl z)) o1 o2 hg fun v H2 F2 C al oc => hs v H2 F2 C (st.trans (al.step r1)) (al.rel r1) oc
theorem de_bin {op : Operator} {g : D × Nat → D × Nat → Option (D × Nat)} {f : Env' → Res ((D × Nat) × (D × Nat) × Env')} (ho : OpD X (binaryOp op) g) (hab : D2 X E a b f) :
    DE X E (.BinOp a op b pos) fun ρ => f ρ >>= fun s => liftO (g s.1 s.2.1) >>= fun d => .ok (d.1, d.2, s.2.2) := by
  obtain ⟨r, hr, h⟩ := ho
  obtain ⟨ta, tb, pa, pb, q2⟩ := hab
  exact ⟨_, pe_op hr pa pb, fun ρ F P σ H Q hl rr hh => opd_end h q2 hl rr hh⟩
theorem dp_cmp {op : CmpOp} {g : D → D → Option D} {f f' : Env' → Option (D × Nat)} (ho : OpP X (compareOp op) g) (ha : DP X a f) (hb : DP X b f') (hm : behindInMarks op b = false := by first | exact nomark _ | with_unfolding_all rfl) :
    DP X (.Compare a [op] [b] pos) fun ρ => (f ρ).bind fun x => (f' ρ).bind fun y => (g x.1 y.1).map fun d => (d, 0) := by
  obtain ⟨r, hr, h⟩ := ho
  obtain ⟨ta, pa, qa⟩ := ha
  obtain ⟨tb, pb, qb⟩ := hb
  refine ⟨_, pe_cmpR hr pa pb hm, fun ρ F P σ H Q d n hl rr e q => ?_⟩
  cases hf : f ρ with
  | none => rw [hf] at e; cases e
  | some x =>
    rw [hf] at e
    cases hf' : f' ρ with
    | none => rw [hf'] at e; cases e
    | some y =>
      rw [hf'] at e
      simp only [Option.bind_some] at e
      cases hg : g x.1 y.1 with
      | none => rw [hg] at e; cases e
      | some d' =>
        rw [hg] at e
        cases e
        exact qa ρ F P σ H _ x.1 x.2 hl rr hf fun v A o1 => qb ρ F P σ H _ y.1 y.2 hl rr hf' fun u B o2 => h F H v u _ _ _ _ _ A B Q o1 o2 hg fun v rp => q v [] ⟨rfl, rp⟩
theorem de_cmp {op : CmpOp} {g : D × Nat → D × Nat → Option (D × Nat)} {f : Env' → Res ((D × Nat) × (D × Nat) × Env')} (ho : OpD X (compareOp op) g) (hab : D2 X E a b f) (hm : behindInMarks op b = false := by first | exact nomark _ | with_unfolding_all rfl) :
    DE X E (.Compare a [op] [b] pos) fun ρ => f ρ >>= fun s => liftO (g s.1 s.2.1) >>= fun d => .ok (d.1, d.2, s.2.2) := by
  obtain ⟨r, hr, h⟩ := ho
  obtain ⟨ta, tb, pa, pb, q2⟩ := hab
  exact ⟨_, pe_cmpR hr pa pb hm, fun ρ F P σ H Q hl rr hh => opd_end h q2 hl rr hh⟩
def isB (d : D) : Option Bool := match d with
  | .bool b => some b
  | _ => none
/-- a comparison as a test -/
theorem dt_cmp {op : CmpOp} {g : D × Nat → D × Nat → Option (D × Nat)} {f : Env' → Res ((D × Nat) × (D × Nat) × Env')} (ho : OpD X (compareOp op) g) (hab : D2 X E a b f) (hm : behindInMarks op b = false := by first | exact nomark _ | with_unfolding_all rfl) :
    DT X E (.Compare a [op] [b] pos) fun ρ => f ρ >>= fun s => liftO ((g s.1 s.2.1).bind fun d => isB d.1) >>= fun k => .ok (k, s.2.2) := by
  obtain ⟨r, hr, h⟩ := ho
  obtain ⟨ta, tb, pa, pb, q2⟩ := hab
  refine ⟨_, pt_cmpR hr pa pb hm, fun ρ F P σ H Q hl rr hh => ?_⟩
  refine q2 ρ F P σ H _ hl rr (hh.bind.same fun s hs v u H1 F1 A B st r1 o1 o2 => ?_)
  cases hg : g s.1 s.2.1 with
  | none => rw [hg] at hs; exact hs.elim
  | some d =>
    rw [hg] at hs
    simp only [Option.bind_some] at hs
    cases hk : isB d.1 with
    | none => rw [hk] at hs; exact hs.elim
    | some k =>
      rw [hk] at hs
      refine h F1 H1 v u _ _ d A B _ (fun a z => r1.dom a (.inl z)) o1 o2 hg fun v H2 F2 C al oc => ?_
      obtain ⟨d1, d2⟩ := d
      cases d1 <;> simp only [isB] at hk <;> cases hk
      rw [own_bool oc]
      exact ⟨_, rfl, hs H2 F2 (st.trans (al.step r1)) (al.rel r1).drop⟩
/-- a bool-valued expression as a test -/
theorem dt_val {f : Env' → Res (D × Nat × Env')} (h : D1 X E e f) (he : ∀ whole, isTrue e X.env whole = (do let v ← whole; standAt e.pos; holding [v] (truthy v)) := by intro _; rfl) : DT X E e fun ρ => f ρ >>= fun x => liftO (isB x.1) >>= fun k => .ok (k, x.2.2) := by
  obtain ⟨t, pe, hp⟩ := h
  refine ⟨_, pt_val pe he, fun ρ F P σ H Q hl rr hh => ?_⟩
  refine hp ρ F P σ H _ hl rr (hh.bind.same fun x hx v H1 F1 A st r1 o => ?_)
  cases hk : isB x.1 with
  | none => rw [hk] at hx; exact hx.elim
  | some k =>
    rw [hk] at hx
    obtain ⟨d1, d2, d3⟩ := x
    simp only at hk o
    cases d1 <;> simp only [isB] at hk <;> cases hk
    rw [own_bool o]
    exact ⟨_, rfl, hx H1 F1 st r1⟩
/-- not, and, or as tests -/
theorem dt_not {f : Env' → Res (Bool × Env')} (h : DT X E a f) : DT X E (.UnaryOp .Not a pos) fun ρ => f ρ >>= fun x => .ok (!x.1, x.2) := by
  obtain ⟨t, pe, hp⟩ := h
  exact ⟨_, pt_not pe, fun ρ F P σ H Q hl rr hh => hp ρ F P σ H _ hl rr (hh.bind.same fun x hx => hx)⟩
theorem dt_pw {f : Env' → Res (Bool × Env')} (h : DW X E e f) : DT X E e f := by
  obtain ⟨t, pe, hp⟩ := h
  exact ⟨_, pe.pt, hp⟩
theorem dw_and1 {f : Env' → Res (Bool × Env')} (h : DT X E a f) : DW X E (.BoolOp .And [a] pos) f := by
  obtain ⟨t, pe, hp⟩ := h
  exact ⟨_, pw_and1 pe, hp⟩
theorem dw_or1 {f : Env' → Res (Bool × Env')} (h : DT X E a f) : DW X E (.BoolOp .Or [a] pos) f := by
  obtain ⟨t, pe, hp⟩ := h
  exact ⟨_, pw_or1 pe, hp⟩
def andR (f g : Env' → Res (Bool × Env')) : Env' → Res (Bool × Env') := fun ρ => f ρ >>= fun x => if x.1 = true then g x.2 else .ok (false, x.2)
def orR (f g : Env' → Res (Bool × Env')) : Env' → Res (Bool × Env') := fun ρ => f ρ >>= fun x => if x.1 = true then .ok (true, x.2) else g x.2
theorem dw_and {rest : List Expr} {f g : Env' → Res (Bool × Env')} (h : DT X E a f) (h' : DW X E (.BoolOp .And (b :: rest) pos) g) : DW X E (.BoolOp .And (a :: b :: rest) pos) (andR f g) := by
  obtain ⟨t, pe, hp⟩ := h
  obtain ⟨t', pe', hp'⟩ := h'
  refine ⟨_, pw_and pe pe', fun ρ F P σ H Q hl rr hh => hp ρ F P σ H _ hl rr (hh.bind.same fun x hx H1 F1 st r1 => ?_)⟩
  by_cases c : x.1 = true
  · rw [if_pos c] at hx ⊢
    exact hp' x.2 F1 P σ H1 _ (rel_len rr hl r1) r1 (hx.imp st (fun _ z => z) fun y hy H2 F2 st2 r2 => hy H2 F2 (st.trans st2) r2)
  · rw [if_neg c] at hx ⊢
    exact hx H1 F1 st r1
theorem dw_or {rest : List Expr} {f g : Env' → Res (Bool × Env')} (h : DT X E a f) (h' : DW X E (.BoolOp .Or (b :: rest) pos) g) : DW X E (.BoolOp .Or (a :: b :: rest) pos) (orR f g) := by
  obtain ⟨t, pe, hp⟩ := h
  obtain ⟨t', pe', hp'⟩ := h'
  refine ⟨_, pw_or pe pe', fun ρ F P σ H Q hl rr hh => hp ρ F P σ H _ hl rr (hh.bind.same fun x hx H1 F1 st r1 => ?_)⟩
  by_cases c : x.1 = true
  · rw [if_pos c] at hx ⊢
    exact hx H1 F1 st r1
  · rw [if_neg c] at hx ⊢
    exact hp' x.2 F1 P σ H1 _ (rel_len rr hl r1) r1 (hx.imp st (fun _ z => z) fun y hy H2 F2 st2 r2 => hy H2 F2 (st.trans st2) r2)
/-- .. as values (bools) -/
theorem de_one {op} {f : Env' → Res (D × Nat × Env')} (h : DE X E a f) : DE X E (.BoolOp op [a] pos) f := by
  obtain ⟨t, pe, hp⟩ := h
  exact ⟨_, pe_one pe, hp⟩
def andV (f g : Env' → Res (D × Nat × Env')) : Env' → Res (D × Nat × Env') := fun ρ => f ρ >>= fun x => liftO (isB x.1) >>= fun k => if k = true then g x.2.2 else .ok (.bool false, 0, x.2.2)
def orV (f g : Env' → Res (D × Nat × Env')) : Env' → Res (D × Nat × Env') := fun ρ => f ρ >>= fun x => liftO (isB x.1) >>= fun k => if k = true then .ok (.bool true, 0, x.2.2) else g x.2.2
theorem de_and {rest : List Expr} {f g : Env' → Res (D × Nat × Env')} (h : D1 X E a f) (h' : DE X E (.BoolOp .And (b :: rest) pos) g) : DE X E (.BoolOp .And (a :: b :: rest) pos) (andV f g) := by
  obtain ⟨t, pe, hp⟩ := h
  obtain ⟨t', pe', hp'⟩ := h'
  refine ⟨_, pe_and pe pe', fun ρ F P σ H Q hl rr hh => hp ρ F P σ H _ hl rr (hh.bind.same fun x hx v H1 F1 A st r1 o => ?_)⟩
  obtain ⟨d1, d2, d3⟩ := x
  cases hk : isB d1 with
  | none => rw [hk] at hx; exact hx.elim
  | some k =>
    rw [hk] at hx
    simp only at hk o
    cases d1 <;> simp only [isB] at hk <;> cases hk
    rw [own_bool o]
    refine ⟨_, rfl, ?_⟩
    simp only [liftO, bind_ok] at hx
    by_cases c : k = true
    · rw [if_pos c] at hx ⊢
      exact hp' d3 F1 P σ H1 _ (rel_len rr hl r1) r1 (hx.imp st (fun _ z => z) fun y hy v H2 F2 A st2 r2 => hy v H2 F2 A (st.trans st2) r2)
    · rw [if_neg c] at hx ⊢
      exact hx _ H1 F1 [] st r1 ⟨rfl, .bl false⟩
theorem de_or {rest : List Expr} {f g : Env' → Res (D × Nat × Env')} (h : D1 X E a f) (h' : DE X E (.BoolOp .Or (b :: rest) pos) g) : DE X E (.BoolOp .Or (a :: b :: rest) pos) (orV f g) := by
  obtain ⟨t, pe, hp⟩ := h
  obtain ⟨t', pe', hp'⟩ := h'
  refine ⟨_, pe_or pe pe', fun ρ F P σ H Q hl rr hh => hp ρ F P σ H _ hl rr (hh.bind.same fun x hx v H1 F1 A st r1 o => ?_)⟩
  obtain ⟨d1, d2, d3⟩ := x
  cases hk : isB d1 with
  | none => rw [hk] at hx; exact hx.elim
  | some k =>
    rw [hk] at hx
    simp only at hk o
    cases d1 <;> simp only [isB] at hk <;> cases hk
    rw [own_bool o]
    refine ⟨_, rfl, ?_⟩
    simp only [liftO, bind_ok] at hx
    by_cases c : k = true
    · rw [if_pos c] at hx ⊢
      exact hx _ H1 F1 [] st r1 ⟨rfl, .bl true⟩
    · rw [if_neg c] at hx ⊢
      exact hp' d3 F1 P σ H1 _ (rel_len rr hl r1) r1 (hx.imp st (fun _ z => z) fun y hy v H2 F2 A st2 r2 => hy v H2 F2 A (st.trans st2) r2)
def notD (d : D) : Option D := match d with
  | .bool b => some (.bool !b)
  | _ => none
theorem de_not {f : Env' → Res (D × Nat × Env')} (h : D1 X E a f) : DE X E (.UnaryOp .Not a pos) fun ρ => f ρ >>= fun x => liftO (notD x.1) >>= fun d => .ok (d, 0, x.2.2) := by
  obtain ⟨t, pe, hp⟩ := h
  refine ⟨_, pe_not pe, fun ρ F P σ H Q hl rr hh => hp ρ F P σ H _ hl rr (hh.bind.same fun x hx v H1 F1 A st r1 o => ?_)⟩
  obtain ⟨d1, d2, d3⟩ := x
  cases d1 <;> try exact hx.elim
  rename_i k
  simp only at o
  rw [own_bool o]
  exact ⟨_, rfl, hx _ H1 F1 [] st r1 ⟨rfl, .bl (!k)⟩⟩
def ifR {α : Type} (c : Env' → Res (Bool × Env')) (f g : Env' → Res α) : Env' → Res α := fun ρ => c ρ >>= fun x => if x.1 = true then f x.2 else g x.2
theorem de_if {c : Expr} {fc : Env' → Res (Bool × Env')} {f g : Env' → Res (D × Nat × Env')} (hc : DT X E c fc) (ha : DE X E a f) (hb : DE X E b g) : DE X E (.IfExp c a b pos) (ifR fc f g) := by
  obtain ⟨tc, pc, qc⟩ := hc
  obtain ⟨ta, pa, qa⟩ := ha
  obtain ⟨tb, pb, qb⟩ := hb
  refine ⟨_, pe_ifExp pc pa pb, fun ρ F P σ H Q hl rr hh => qc ρ F P σ H _ hl rr (hh.bind.same fun x hx H1 F1 st r1 => ?_)⟩
  by_cases c : x.1 = true
  · rw [if_pos c] at hx ⊢
    exact qa x.2 F1 P σ H1 _ (rel_len rr hl r1) r1 (hx.imp st (fun _ z => z) fun y hy v H2 F2 A st2 r2 => hy v H2 F2 A (st.trans st2) r2)
  · rw [if_neg c] at hx ⊢
    exact qb x.2 F1 P σ H1 _ (rel_len rr hl r1) r1 (hx.imp st (fun _ z => z) fun y hy v H2 F2 A st2 r2 => hy v H2 F2 A (st.trans st2) r2)

/-! ### calls of built-ins -/
abbrev OwnsC (K : PySem.W.Frag) (F : AS) (H : Hp) : List (D × Nat) → List V → Prop := Paired fun (d : D × Nat) v => ∃ A, Own K F H d.2 d.1 v A
def CallP (X : Cx) (f : Value) (g : List (D × Nat) → Option D) : Prop :=
  ∃ r, CallR X f r ∧ ∀ (F : AS) (H : Hp) (vs : List V) (ds : List (D × Nat)) (d : D) (Q : VK), OwnsC X.K F H ds vs → g ds = some d → (∀ v, Rep X.K F H d v → Q v H) → r vs H Q
def CallD (X : Cx) (f : Value) (g : List (D × Nat) → Option (D × Nat)) : Prop :=
  ∃ r, CallR X f r ∧ ∀ (F : AS) (H : Hp) (vs : List V) (ds : List (D × Nat)) (c : D × Nat) (Q : VK), (∀ a, F a → H a ≠ none) → OwnsC X.K F H ds vs → g ds = some c →
    (∀ v H' F' C, Alloc F H F' H' C → Own X.K F' H' c.2 c.1 v C → Q v H') → r vs H Q
theorem CallR.or {f : Value} {r r' : List V → Hp → VK → Prop} (h : CallR X f r) (h' : CallR X f r') : CallR X f fun xs H Q => r xs H Q ∨ r' xs H Q := by
  intro pins s σ H xs us Q I rx q
  rcases q with q | q
  · exact h pins s σ H xs us Q I rx q
  · exact h' pins s σ H xs us Q I rx q
theorem CallP.d {f : Value} {g : List (D × Nat) → Option D} (h : CallP X f g) : CallD X f fun a => (g a).map fun d => (d, 0) := by
  obtain ⟨r, ho, h⟩ := h
  refine ⟨r, ho, fun F H vs ds c Q hd o e q => ?_⟩
  dsimp only at e
  cases hg : g ds with
  | none => rw [hg] at e; cases e
  | some d =>
    rw [hg] at e
    cases e
    exact h F H vs ds d Q o hg fun v rp => q v H F [] (Alloc.refl hd) ⟨rfl, rp⟩
theorem CallD.or {f : Value} {g g' : List (D × Nat) → Option (D × Nat)} (h : CallD X f g) (h' : CallD X f g') : CallD X f fun a => (g a).or (g' a) := by
  obtain ⟨r, ho, h⟩ := h
  obtain ⟨r', ho', h'⟩ := h'
  refine ⟨_, CallR.or ho ho', fun F H vs ds c Q hd o e q => ?_⟩
  dsimp only at e
  cases hg : g ds with
  | none => rw [hg] at e; exact .inr (h' F H vs ds c Q hd o e q)
  | some d => rw [hg] at e; exact .inl (h F H vs ds c Q hd o (hg.trans e) q)
theorem CallP.or {f : Value} {g g' : List (D × Nat) → Option D} (h : CallP X f g) (h' : CallP X f g') : CallP X f fun a => (g a).or (g' a) := by
  obtain ⟨r, ho, h⟩ := h
  obtain ⟨r', ho', h'⟩ := h'
  refine ⟨_, CallR.or ho ho', fun F H vs ds c Q o e q => ?_⟩
  dsimp only at e
  cases hg : g ds with
  | none => rw [hg] at e; exact .inr (h' F H vs ds c Q o e q)
  | some d => rw [hg] at e; exact .inl (h F H vs ds c Q o (hg.trans e) q)
section
variable {x : Str} {p : Pos} {es : List Expr} {id T : String}
theorem dp_callB {g : List (D × Nat) → Option D} {f : Env' → Option (List (D × Nat))} (hc : CallP X (.builtin id) g) (hg : Gl X x) (hm : X.mg x = none) (hv : bootBuiltins x = some (.builtin id)) (ha : DCp X (e :: es) f) (hn : x ≠ "__name__" := by decide) (hdb : (x == ("__debug__" : Str)) = false := by decide)
    (he : starEach (e :: es) X.env = (false, eval e X.env) :: starEach es X.env := by rfl) (hpl : (backTo pos (starEach es X.env)).any (·.1) = false := by rfl) : DP X (.Call (.Name x p) (e :: es) [] pos) fun ρ => (f ρ).bind fun ds => (g ds).map fun d => (d, 0) := by
  obtain ⟨r, hr, h⟩ := hc
  obtain ⟨t, pa, qa⟩ := ha
  refine ⟨_, pe_callB hr hg hm hv pa hn hdb he hpl, fun ρ F P σ H Q d n hl rr e q => ?_⟩
  cases hf : f ρ with
  | none => rw [hf] at e; cases e
  | some ds =>
    rw [hf] at e
    simp only [Option.bind_some] at e
    cases hg : g ds with
    | none => rw [hg] at e; cases e
    | some d' =>
      rw [hg] at e
      cases e
      exact qa ρ F P σ H _ ds hl rr hf fun vs l => h F H vs ds _ Q l hg fun v rp => q v [] ⟨rfl, rp⟩
theorem dp_callT {g : List (D × Nat) → Option D} {f : Env' → Option (List (D × Nat))} (hc : CallP X (.type T) g) (hg : Gl X x) (hm : X.mg x = none) (hv : bootBuiltins x = some (.type T)) (ha : DCp X (e :: es) f) (hn : x ≠ "__name__" := by decide) (hdb : (x == ("__debug__" : Str)) = false := by decide)
    (he : starEach (e :: es) X.env = (false, eval e X.env) :: starEach es X.env := by rfl) (hpl : (backTo pos (starEach es X.env)).any (·.1) = false := by rfl) : DP X (.Call (.Name x p) (e :: es) [] pos) fun ρ => (f ρ).bind fun ds => (g ds).map fun d => (d, 0) := by
  obtain ⟨r, hr, h⟩ := hc
  obtain ⟨t, pa, qa⟩ := ha
  refine ⟨_, pe_callTy hr hg hm hv pa hn hdb he hpl, fun ρ F P σ H Q d n hl rr e q => ?_⟩
  cases hf : f ρ with
  | none => rw [hf] at e; cases e
  | some ds =>
    rw [hf] at e
    simp only [Option.bind_some] at e
    cases hg : g ds with
    | none => rw [hg] at e; cases e
    | some d' =>
      rw [hg] at e
      cases e
      exact qa ρ F P σ H _ ds hl rr hf fun vs l => h F H vs ds _ Q l hg fun v rp => q v [] ⟨rfl, rp⟩
theorem calld_end {g : List (D × Nat) → Option (D × Nat)} {f : Env' → Res (List (D × Nat) × Env')} {t : TA} {r : List V → Hp → VK → Prop}
    (h : ∀ (F : AS) (H : Hp) (vs : List V) (ds : List (D × Nat)) (c : D × Nat) (Q : VK), (∀ a, F a → H a ≠ none) → OwnsC X.K F H ds vs → g ds = some c →
      (∀ v H' F' C, Alloc F H F' H' C → Own X.K F' H' c.2 c.1 v C → Q v H') → r vs H Q)
    (qa : ∀ (ρ : Env') (F P : AS) (σ : L2.St) (H : Hp) (Q : List V → Hp → Prop), ρ.length = X.N.length → Rel X.K F P ρ σ H →
      Post X E F P σ H (f ρ) (fun r => ∀ vs H' F', Step F P H F' H' → Rel X.K F' P r.2 σ H' → Paired (fun (d : D × Nat) v => ∃ A, Own X.K F' H' d.2 d.1 v A) r.1 vs → Q vs H') → t σ H Q)
    {ρ : Env'} {F P : AS} {σ : L2.St} {H : Hp} {Q : VK} (hl : ρ.length = X.N.length) (rr : Rel X.K F P ρ σ H)
    (hh : Post X E F P σ H (f ρ >>= fun s => liftO (g s.1) >>= fun d => Res.ok (d.1, d.2, s.2)) (fun r => ∀ v H' F' A, Step F P H F' H' → RelX X.K F' P r.2.2 σ H' A → Own X.K F' H' r.2.1 r.1 v A → Q v H')) :
    t σ H fun vs H1 => r vs H1 Q := by
  refine qa ρ F P σ H _ hl rr (hh.bind.same fun s hs vs H1 F1 st r1 l => ?_)
  cases hg : g s.1 with
  | none => rw [hg] at hs; exact hs.elim
  | some d =>
    rw [hg] at hs
    exact h F1 H1 vs _ d Q (fun a z => r1.dom a (.inl z)) l hg fun v H2 F2 C al oc => hs v H2 F2 C (st.trans (al.step r1)) (al.rel r1) oc
theorem de_callB {g : List (D × Nat) → Option (D × Nat)} {f : Env' → Res (List (D × Nat) × Env')} (hc : CallD X (.builtin id) g) (hg : Gl X x) (hm : X.mg x = none) (hv : bootBuiltins x = some (.builtin id)) (ha : DC X E (e :: es) f) (hn : x ≠ "__name__" := by decide) (hdb : (x == ("__debug__" : Str)) = false := by decide)
    (he : starEach (e :: es) X.env = (false, eval e X.env) :: starEach es X.env := by rfl) (hpl : (backTo pos (starEach es X.env)).any (·.1) = false := by rfl) : DE X E (.Call (.Name x p) (e :: es) [] pos) fun ρ => f ρ >>= fun s => liftO (g s.1) >>= fun d => .ok (d.1, d.2, s.2) := by
  obtain ⟨r, hr, h⟩ := hc
  obtain ⟨t, pa, qa⟩ := ha
  exact ⟨_, pe_callB hr hg hm hv pa hn hdb he hpl, fun ρ F P σ H Q hl rr hh => calld_end h qa hl rr hh⟩
theorem de_callT {g : List (D × Nat) → Option (D × Nat)} {f : Env' → Res (List (D × Nat) × Env')} (hc : CallD X (.type T) g) (hg : Gl X x) (hm : X.mg x = none) (hv : bootBuiltins x = some (.type T)) (ha : DC X E (e :: es) f) (hn : x ≠ "__name__" := by decide) (hdb : (x == ("__debug__" : Str)) = false := by decide)
    (he : starEach (e :: es) X.env = (false, eval e X.env) :: starEach es X.env := by rfl) (hpl : (backTo pos (starEach es X.env)).any (·.1) = false := by rfl) : DE X E (.Call (.Name x p) (e :: es) [] pos) fun ρ => f ρ >>= fun s => liftO (g s.1) >>= fun d => .ok (d.1, d.2, s.2) := by
  obtain ⟨r, hr, h⟩ := hc
  obtain ⟨t, pa, qa⟩ := ha
  exact ⟨_, pe_callTy hr hg hm hv pa hn hdb he hpl, fun ρ F P σ H Q hl rr hh => calld_end h qa hl rr hh⟩
end
end
end DL

namespace DL
open PySem PySem.Spec PyProof.Rows L2

abbrev line : Nat := 16777216
theorem line_eq : sizeLine = line := sizeLine_eq

/-! ### new objects -/
section
variable {K : PySem.W.Frag} {F : AS} {H : Hp}
theorem same_new {p : Addr} (h : H p = none) (o : HO) : Same H (upd H p o) := fun b u q => by rw [upd_ne (ne_of_none q h)]; exact q
theorem grow_new {p : Addr} (h : H p = none) (o : HO) (hd : ∀ a, F a → H a ≠ none) : Grow F H F (upd H p o) := ⟨fun a f => ⟨f, upd_ne fun z => hd a f (by rw [z]; exact h)⟩, fun a vs q => same_new h o a _ q⟩
theorem alloc_list {p : Addr} {ds : List D} {vs : List V} (h : H p = none) (hd : ∀ a, F a → H a ≠ none) (r : RepL K F H ds vs) :
    Alloc F H F (upd H p (.lst vs)) [p] ∧ Own K F (upd H p (.lst vs)) 1 (.list ds) (.ref p) [p] := by
  refine ⟨⟨fun a o e _ => same_new h _ a o e, fun _ f => f, fun _ f => .inl f, fun a ha => ?_, by simp, fun a f => ?_, (grow_new (F := F) h _ hd).tups⟩, .inr (.inl ⟨ds, p, vs, [], rfl, rfl, upd_same, rfl, AllOwn.of_rep (r.mono (grow_new h _ hd))⟩)⟩
  · have e : a = p := by simpa using ha
    subst e
    exact ⟨.inl h, fun z => hd _ z h⟩
  · rw [upd_ne fun z => hd a f (by rw [z]; exact h)]; exact hd a f
theorem alloc_tuple {p : Addr} {ds : List D} {vs : List V} (h : H p = none) (hd : ∀ a, F a → H a ≠ none) (r : RepL K F H ds vs) :
    Alloc F H F (upd H p (.tup vs)) [] ∧ Rep K F (upd H p (.tup vs)) (.tuple ds) (.ref p) :=
  ⟨⟨fun a o e _ => same_new h _ a o e, fun _ f => f, fun a f => .inl f, fun a ha => (by cases ha), by simp, fun a f => by rw [upd_ne fun z => hd a f (by rw [z]; exact h)]; exact hd a f, (grow_new (F := F) h _ hd).tups⟩, .tup upd_same (r.mono (grow_new h _ hd))⟩
end

/-! ### arithmetic, comparisons of ints -/
instance (i j : Int) : Decidable (CMul i j) := by unfold CMul; infer_instance
instance (i j : Int) : Decidable (CDiv i j) := by unfold CDiv; infer_instance
instance (i j : Int) : Decidable (CPow i j) := by unfold CPow; infer_instance
def iiD (C : Int → Int → Bool) (k : Int → Int → D) : D → D → Option D
  | .int i, .int j => if C i j = true then some (k i j) else none
  | _, _ => none
section
variable {X : Cx}
theorem opp_ii0 {f : Value → Value → Sem Value} {k : Int → Int → D} {g : Int → Int → V} (ho : OpR X f (rI0 g)) (hk : ∀ F H i j, Rep X.K F H (k i j) (g i j)) : OpP X f (iiD (fun _ _ => true) k) := by
  refine ⟨_, ho, fun F H x y da db d na nb A B Q o1 o2 e q => ?_⟩
  cases da <;> try (simp only [iiD] at e; cases e)
  cases db <;> try (simp only [iiD] at e; cases e)
  rw [own_int o1, own_int o2]
  exact ⟨_, _, rfl, rfl, q _ (hk F H _ _)⟩
theorem opp_ii {f : Value → Value → Sem Value} {C : Int → Int → Prop} {c : Int → Int → Bool} {k : Int → Int → D} {g : Int → Int → V} (ho : OpR X f (rI C g)) (hc : ∀ i j, c i j = true → C i j) (hk : ∀ F H i j, Rep X.K F H (k i j) (g i j)) : OpP X f (iiD c k) := by
  refine ⟨_, ho, fun F H x y da db d na nb A B Q o1 o2 e q => ?_⟩
  cases da <;> try (simp only [iiD] at e; cases e)
  cases db <;> try (simp only [iiD] at e; cases e)
  rename_i i j
  simp only [iiD] at e
  by_cases z : c i j = true
  · rw [if_pos z] at e
    cases e
    rw [own_int o1, own_int o2]
    exact ⟨_, _, rfl, rfl, hc _ _ z, q _ (hk F H _ _)⟩
  · rw [if_neg z] at e; cases e
def addI := iiD (fun _ _ => true) fun i j => .int (i + j)
def subI := iiD (fun _ _ => true) fun i j => .int (i - j)
/-- two factors of together less than a hundred million bits -/
def CMulZ (i j : Int) : Prop := i.natAbs.log2 + j.natAbs.log2 < 100000000
instance (i j : Int) : Decidable (CMulZ i j) := inferInstanceAs (Decidable (_ < _))
theorem CMulZ.ok {i j : Int} (h : CMulZ i j) : IntMulOk i j := by
  have b : ∀ x : Int, Builtin.Int.intBits x ≤ x.natAbs.log2 + 1 := fun x => by unfold Builtin.Int.intBits; split <;> omega
  have h1 := b i
  have h2 := b j
  have h3 : i.natAbs.log2 + j.natAbs.log2 < 100000000 := h
  have e : bitsLine = 134217728 := by decide
  intro z
  have z2 := (Bool.and_eq_true _ _).mp z
  have z3 := of_decide_eq_true (show decide _ = true from z2.2)
  rw [e] at z3
  omega
theorem op_mulZ {X : Cx} : OpR X (binaryOp .Mult) (rI CMulZ fun i j => .int (i * j)) := opI fun _ _ _ _ _ _ _ hc q => mul_int q hc.ok
def mulI := iiD (fun i j => decide (CMulZ i j)) fun i j => .int (i * j)
def fdivI := iiD (fun i j => decide (CDiv i j)) fun i j => .int (i / j)
def modI := iiD (fun _ j => decide (0 < j)) fun i j => .int (i % j)
def powI := iiD (fun i j => decide (CPow i j)) fun i j => .int (i ^ j.toNat)
def ltI := iiD (fun _ _ => true) fun i j => .bool (decide (i < j))
def leI := iiD (fun _ _ => true) fun i j => .bool (decide (i ≤ j))
def gtI := iiD (fun _ _ => true) fun i j => .bool (decide (j < i))
def geI := iiD (fun _ _ => true) fun i j => .bool (decide (j ≤ i))
theorem opp_add : OpP X (binaryOp .Add) addI := opp_ii0 op_add fun _ _ _ _ => .int _
theorem opp_sub : OpP X (binaryOp .Sub) subI := opp_ii0 op_sub fun _ _ _ _ => .int _
theorem opp_mul : OpP X (binaryOp .Mult) mulI := opp_ii op_mulZ (fun _ _ h => of_decide_eq_true h) fun _ _ _ _ => .int _
theorem opp_fdiv : OpP X (binaryOp .FloorDiv) fdivI := opp_ii op_fdiv (fun _ _ h => of_decide_eq_true h) fun _ _ _ _ => .int _
theorem opp_mod : OpP X (binaryOp .Mod) modI := opp_ii op_mod (fun _ _ h => of_decide_eq_true h) fun _ _ _ _ => .int _
theorem opp_pow : OpP X (binaryOp .Pow) powI := opp_ii op_pow (fun _ _ h => of_decide_eq_true h) fun _ _ _ _ => .int _
theorem opp_lt : OpP X (compareOp .Lt) ltI := opp_ii0 op_lt fun _ _ _ _ => .bl _
theorem opp_le : OpP X (compareOp .LtE) leI := opp_ii0 op_le fun _ _ _ _ => .bl _
theorem opp_gt : OpP X (compareOp .Gt) gtI := opp_ii0 op_gt fun _ _ _ _ => .bl _
theorem opp_ge : OpP X (compareOp .GtE) geI := opp_ii0 op_ge fun _ _ _ _ => .bl _
/-! texts -/
def addS : D → D → Option D
  | .str x, .str y => if x.length + y.length ≤ line then some (.str (x ++ y)) else none
  | _, _ => none
theorem opp_addS : OpP X (binaryOp .Add) addS := by
  refine ⟨_, op_add_str, fun F H x y da db d na nb A B Q o1 o2 e q => ?_⟩
  cases da <;> try (simp only [addS] at e; cases e)
  cases db <;> try (simp only [addS] at e; cases e)
  rename_i i j
  simp only [addS] at e
  by_cases z : i.length + j.length ≤ line
  · rw [if_pos z] at e
    cases e
    rw [own_str o1, own_str o2]
    exact ⟨_, _, rfl, rfl, by rw [line_eq]; exact z, q _ (.str _)⟩
  · rw [if_neg z] at e; cases e
/-! lists, tuples -/
theorem op_catR : OpR X (binaryOp .Add) (fun x y H Q => ∃ l b xs zs, x = .ref l ∧ y = .ref b ∧ SqL X.K H l xs ∧ SqL X.K H b zs ∧ xs.length + zs.length ≤ sizeLine ∧ ∀ p, H p = none → Q (.ref p) (upd H p (.lst (xs ++ zs)))) := by
  intro pins s σ H x y v u Q I rx ry h
  obtain ⟨l, b, xs, zs, rfl, rfl, hH, hB, hz, q⟩ := h
  cases rx
  cases ry
  obtain ⟨its, r, ⟨⟨c1, d1, t1, sl1⟩, n, ho, hc, _, hd⟩, _⟩ := I.list hH
  obtain ⟨its2, r2, ⟨⟨c2, d2, t2, sl2⟩, n2, ho2, hc2, _, hd2⟩, _⟩ := I.list hB
  cases hc
  cases hc2
  cases hd
  cases hd2
  have hl := r.length
  have hl2 := r2.length
  have sz : its.toArray.size + its2.toArray.size ≤ sizeLine := by rw [List.size_toArray, List.size_toArray]; omega
  refine concat_meets ⟨_, ho, rfl⟩ ⟨_, ho2, rfl⟩ noFill_list_add seq_list_add PySem.F.slot_list_add PySem.F.entry_list_add
    (PySem.F.args_list_add_2 _ _) (list_addW l b its.toArray its2.toArray n n2 d1 d2 sl1 sl2 (by simpa using sz)) ⟨ho, ho2, ?_⟩
  have ea : its.toArray ++ its2.toArray = (its ++ its2).toArray := by simp
  rw [ea]
  exact ⟨.ref _, _, I.lnew (t' := s.toks) (r.append r2) (by rw [List.length_append]; omega), rfl, q _ I.fresh⟩
def catL : D × Nat → D × Nat → Option (D × Nat)
  | (.list xs, n), (.list ys, m) => if n ≤ 1 ∧ m ≤ 1 ∧ xs.length + ys.length ≤ line then some (.list (xs ++ ys), 1) else none
  | _, _ => none
theorem opd_catL : OpD X (binaryOp .Add) catL := by
  refine ⟨_, op_catR, fun F H x y a b c A B Q hd o1 o2 e q => ?_⟩
  obtain ⟨da, n⟩ := a
  obtain ⟨db, m⟩ := b
  cases da <;> try (simp only [catL] at e; cases e)
  cases db <;> try (simp only [catL] at e; cases e)
  rename_i xs ys
  simp only [catL] at e
  by_cases z : n ≤ 1 ∧ m ≤ 1 ∧ xs.length + ys.length ≤ line
  · rw [if_pos z] at e
    cases e
    obtain ⟨l, vs, rfl, r1, l1⟩ := own_list1 o1 z.1
    obtain ⟨l', us, rfl, r2, l2⟩ := own_list1 o2 z.2.1
    refine ⟨l, l', vs, us, rfl, rfl, r1, r2, by rw [l1.length, l2.length, line_eq]; exact z.2.2, fun p hp => ?_⟩
    obtain ⟨al, ow⟩ := alloc_list hp hd (l1.append l2)
    exact q _ _ _ _ al ow
  · rw [if_neg z] at e; cases e
def catT : D × Nat → D × Nat → Option (D × Nat)
  | (.tuple xs, _), (.tuple ys, _) => if xs.length + ys.length ≤ line then some (.tuple (xs ++ ys), 0) else none
  | _, _ => none
theorem opd_catT : OpD X (binaryOp .Add) catT := by
  refine ⟨_, op_catA, fun F H x y a b c A B Q hd o1 o2 e q => ?_⟩
  obtain ⟨da, n⟩ := a
  obtain ⟨db, m⟩ := b
  cases da <;> try (simp only [catT] at e; cases e)
  cases db <;> try (simp only [catT] at e; cases e)
  rename_i xs ys
  simp only [catT] at e
  by_cases z : xs.length + ys.length ≤ line
  · rw [if_pos z] at e
    cases e
    have p1 := (own_still o1 rfl).2
    have p2 := (own_still o2 rfl).2
    obtain ⟨l, vs, rfl, r1, l1⟩ := rep_tuple p1
    obtain ⟨l', us, rfl, r2, l2⟩ := rep_tuple p2
    refine ⟨l, l', vs, us, rfl, rfl, r1, r2, by rw [l1.length, l2.length, line_eq]; exact z, fun hv => ?_, fun hv hu => ?_, fun hv hu p hp => ?_⟩
    · subst hv
      cases l1
      exact q _ _ _ _ (Alloc.refl hd) ⟨rfl, p2⟩
    · subst hu
      cases l2
      exact q _ _ _ [] (Alloc.refl hd) ⟨rfl, by rw [List.append_nil]; exact p1⟩
    · obtain ⟨al, ow⟩ := alloc_tuple hp hd (l1.append l2)
      exact q _ _ _ [] al ⟨rfl, ow⟩
  · rw [if_neg z] at e; cases e
/-- +, of anything -/
def addD (a b : D × Nat) : Option (D × Nat) := ((addI a.1 b.1).map fun d => (d, 0)).or ((catT a b).or ((catL a b).or ((addS a.1 b.1).map fun d => (d, 0))))
theorem opd_add : OpD X (binaryOp .Add) addD := opp_add.d.or (opd_catT.or (opd_catL.or opp_addS.d))

/-! ### ==, != -/
def eqD : D → D → Option D := fun a b => if noDict a && noDict b && SeqAt.shaped a && SeqAt.shaped b then some (.bool (PyData.eqv a b)) else none
def neD : D → D → Option D := fun a b => if noDict a && noDict b && SeqAt.shaped a && SeqAt.shaped b then some (.bool (!PyData.eqv a b)) else none
theorem opp_eq (hu : X.A.units + 64 < cLine) : OpP X (compareOp .Eq) eqD := by
  refine ⟨_, op_eqD hu, fun F H x y da db d na nb A B Q o1 o2 e q => ?_⟩
  unfold eqD at e
  split at e
  · rename_i h
    simp only [Bool.and_eq_true] at h
    cases e
    exact ⟨da, db, o1.dp h.1.1.1, o2.dp h.1.1.2, h.1.2, h.2, q _ (.bl _)⟩
  · cases e
theorem opp_ne (hu : X.A.units + 64 < cLine) : OpP X (compareOp .NotEq) neD := by
  refine ⟨_, op_neD hu, fun F H x y da db d na nb A B Q o1 o2 e q => ?_⟩
  unfold neD at e
  split at e
  · rename_i h
    simp only [Bool.and_eq_true] at h
    cases e
    exact ⟨da, db, o1.dp h.1.1.1, o2.dp h.1.1.2, h.1.2, h.2, q _ (.bl _)⟩
  · cases e
/-! ### in, not in: any data in a list or tuple -/
def itemsD : D → Option (List D)
  | .list ds => some ds
  | .tuple ds => some ds
  | _ => none
def rInT (K : PySem.W.Frag) (neg : Bool) : R2 := fun x y H Q => ∃ d ds, Dp K H x d ∧ (Dp K H y (.list ds) ∨ Dp K H y (.tuple ds)) ∧ SeqAt.shaped d = true ∧ SeqAt.shaped (.list ds) = true ∧ Q (.bl (if neg then !ds.any fun z => PyData.eqv z d else ds.any fun z => PyData.eqv z d)) H
theorem op_inT (hu : X.A.units + 65 < cLine) : OpR X (compareOp .In) (rInT X.K false) := by
  intro pins s σ H x y v u Q I rx ry h
  obtain ⟨d, ds, hd, he, sd, se, q⟩ := h
  obtain ⟨as, r1⟩ := Dp.reads I d x v hd rx
  rcases he with he | he
  · obtain ⟨bs, r2⟩ := Dp.reads I (.list ds) y u he ry
    exact SeqAt.in_list_reads r2 r1 (SeqAt.canLay_of_shaped se) (SeqAt.canLay_of_shaped sd) (room_in_shaped sd hu) ⟨.bl _, H, I, rfl, q⟩
  · obtain ⟨bs, r2⟩ := Dp.reads I (.tuple ds) y u he ry
    exact SeqAt.in_tuple_reads r2 r1 (SeqAt.canLay_of_shaped se) (SeqAt.canLay_of_shaped sd) (room_in_shaped sd hu) ⟨.bl _, H, I, rfl, q⟩
theorem op_notInT (hu : X.A.units + 65 < cLine) : OpR X (compareOp .NotIn) (rInT X.K true) := by
  intro pins s σ H x y v u Q I rx ry h
  obtain ⟨d, ds, hd, he, sd, se, q⟩ := h
  obtain ⟨as, r1⟩ := Dp.reads I d x v hd rx
  rcases he with he | he
  · obtain ⟨bs, r2⟩ := Dp.reads I (.list ds) y u he ry
    exact SeqAt.notIn_list_reads r2 r1 (SeqAt.canLay_of_shaped se) (SeqAt.canLay_of_shaped sd) (room_in_shaped sd hu) ⟨.bl _, H, I, rfl, q⟩
  · obtain ⟨bs, r2⟩ := Dp.reads I (.tuple ds) y u he ry
    exact SeqAt.notIn_tuple_reads r2 r1 (SeqAt.canLay_of_shaped se) (SeqAt.canLay_of_shaped sd) (room_in_shaped sd hu) ⟨.bl _, H, I, rfl, q⟩
def inD (neg : Bool) : D → D → Option D := fun x y => (itemsD y).bind fun ds => if noDict x && noDict (.list ds) && SeqAt.shaped x && SeqAt.shaped (.list ds) then some (.bool (if neg then !ds.any fun z => PyData.eqv z x else ds.any fun z => PyData.eqv z x)) else none
theorem opp_in_core {neg : Bool} {f : Value → Value → Sem Value} (h : OpR X f (rInT X.K neg)) : OpP X f (inD neg) := by
  refine ⟨_, h, fun F H x y da db d na nb A B Q o1 o2 e q => ?_⟩
  unfold inD at e
  cases hi : itemsD db with
  | none => rw [hi] at e; cases e
  | some ds =>
    rw [hi] at e
    simp only [Option.bind_some] at e
    split at e
    · rename_i h
      simp only [Bool.and_eq_true] at h
      cases e
      refine ⟨da, ds, o1.dp h.1.1.1, ?_, h.1.2, h.2, q _ (.bl _)⟩
      cases db <;> simp only [itemsD] at hi <;> cases hi
      · exact .inl (o2.dp h.1.1.2)
      · exact .inr (o2.dp h.1.1.2)
    · cases e
theorem opp_in (hu : X.A.units + 65 < cLine) : OpP X (compareOp .In) (inD false) := opp_in_core (op_inT hu)
theorem opp_notIn (hu : X.A.units + 65 < cLine) : OpP X (compareOp .NotIn) (inD true) := opp_in_core (op_notInT hu)
/-! ### is None -/
def isNone : D → Bool
  | .none => true
  | _ => false
def isD : D → D → Option D
  | x, .none => some (.bool (isNone x))
  | _, _ => none
def isNotD : D → D → Option D
  | x, .none => some (.bool (!isNone x))
  | _, _ => none
theorem rep_non {K : PySem.W.Frag} {F : AS} {H : Hp} {d : D} {v : V} (r : Rep K F H d v) : decide (v = .non) = isNone d := by
  cases r <;> rfl
theorem own_non {K : PySem.W.Frag} {F : AS} {H : Hp} {n : Nat} {d : D} {v : V} {A : List Addr} (o : Own K F H n d v A) : decide (v = .non) = isNone d := by
  cases n with
  | zero => exact rep_non o.2
  | succ n =>
    rcases o with ⟨_, _, r⟩ | ⟨ds', a, vs, B, e0, ev, e1, _, l⟩ | ⟨_, _, _, e0, ev, _⟩ | ⟨_, _, _, e0, ev, _⟩
    · exact rep_non r
    · subst e0 ev; rfl
    · subst e0 ev; rfl
    · subst e0 ev; rfl
theorem opp_is : OpP X (compareOp .Is) isD := by
  refine ⟨_, op_isN, fun F H x y da db d na nb A B Q o1 o2 e q => ?_⟩
  cases db <;> simp only [isD] at e <;> cases e
  refine ⟨own_none o2, ?_⟩
  rw [own_non o1]
  exact q _ (.bl _)
theorem opp_isnot : OpP X (compareOp .IsNot) isNotD := by
  refine ⟨_, op_notN, fun F H x y da db d na nb A B Q o1 o2 e q => ?_⟩
  cases db <;> simp only [isNotD] at e <;> cases e
  refine ⟨own_none o2, ?_⟩
  rw [own_non o1]
  exact q _ (.bl _)
end
end DL

namespace DL
open PySem PySem.Spec PyProof.Rows L2

/-! ### plain lists of ints, bools -/
def intsD : List D → Option (List Int)
  | [] => some []
  | .int i :: r => (intsD r).map (i :: ·)
  | _ :: _ => none
def boolsD : List D → Option (List Bool)
  | [] => some []
  | .bool i :: r => (boolsD r).map (i :: ·)
  | _ :: _ => none
section
variable {K : PySem.W.Frag} {F : AS} {H : Hp}
theorem AllOwn.ints {n : Nat} : ∀ {ds : List D} {vs : List V} {B : List Addr} {ns : List Int}, AllOwn (Own K F H n) ds vs B → intsD ds = some ns → vs = ns.map V.int
  | _, _, _, ns, .nil, e => by cases e; rfl
  | d :: _, _, _, ns, .cons h t, e => by
    cases d <;> try (simp only [intsD] at e; cases e)
    rename_i i
    simp only [intsD] at e
    cases e' : intsD _ with
    | none => rw [e'] at e; cases e
    | some ms =>
      rw [e'] at e
      cases e
      rw [own_int h, t.ints e']; rfl
theorem AllOwn.bools {n : Nat} : ∀ {ds : List D} {vs : List V} {B : List Addr} {ns : List Bool}, AllOwn (Own K F H n) ds vs B → boolsD ds = some ns → vs = ns.map V.bl
  | _, _, _, ns, .nil, e => by cases e; rfl
  | d :: _, _, _, ns, .cons h t, e => by
    cases d <;> try (simp only [boolsD] at e; cases e)
    rename_i i
    simp only [boolsD] at e
    cases e' : boolsD _ with
    | none => rw [e'] at e; cases e
    | some ms =>
      rw [e'] at e
      cases e
      rw [own_bool h, t.bools e']; rfl
theorem rep_ints : ∀ (ns : List Int), RepL K F H (ns.map .int) (ns.map V.int)
  | [] => .nil
  | n :: ns => .cons (.int n) (rep_ints ns)
theorem intsD_map : ∀ (ns : List Int), intsD (ns.map .int) = some ns
  | [] => rfl
  | n :: ns => by simp [intsD, intsD_map ns]
theorem intsD_of : ∀ {ds : List D} {ns : List Int}, intsD ds = some ns → ds = ns.map .int
  | [], ns, e => by cases e; rfl
  | d :: r, ns, e => by
    cases d <;> try (simp only [intsD] at e; cases e)
    rename_i i
    simp only [intsD] at e
    cases e' : intsD r with
    | none => rw [e'] at e; cases e
    | some ms =>
      rw [e'] at e
      cases e
      rw [intsD_of e']; rfl
theorem owns1 {d : D × Nat} {vs : List V} (l : OwnsC K F H [d] vs) : ∃ v A, vs = [v] ∧ Own K F H d.2 d.1 v A := by
  cases l with
  | cons h t => cases t; obtain ⟨A, o⟩ := h; exact ⟨_, A, rfl, o⟩
theorem owns2 {d e : D × Nat} {vs : List V} (l : OwnsC K F H [d, e] vs) : ∃ v u A B, vs = [v, u] ∧ Own K F H d.2 d.1 v A ∧ Own K F H e.2 e.1 u B := by
  cases l with
  | cons h t =>
    obtain ⟨u, B, e1, o⟩ := owns1 t
    obtain ⟨A, o'⟩ := h
    subst e1
    exact ⟨_, u, A, B, rfl, o', o⟩
end

section
variable {X : Cx}
/-! ### len -/
def lenD : List (D × Nat) → Option D
  | [(.list ds, _)] => some (.int ds.length)
  | [(.tuple ds, _)] => some (.int ds.length)
  | [(.str x, _)] => if x.length ≤ line then some (.int x.length) else none
  | _ => none
theorem cp_len : CallP X (.builtin "len") lenD := by
  refine ⟨_, call_len, fun F H vs ds d Q oc e q => ?_⟩
  match ds, e with
  | [(.list xs, n)], e =>
    cases e
    obtain ⟨v, A, rfl, o⟩ := owns1 oc
    obtain ⟨a, us, B, rfl, r, l⟩ := own_list o
    exact ⟨_, xs.length, rfl, .inl ⟨us, r, l.length.symm⟩, q _ (.int _)⟩
  | [(.tuple xs, n)], e =>
    cases e
    obtain ⟨v, A, rfl, o⟩ := owns1 oc
    obtain ⟨a, us, rfl, r, l⟩ := own_tuple o
    exact ⟨_, xs.length, rfl, .inr ⟨us, r, l.length.symm⟩, q _ (.int _)⟩
  | [(.str x, n)], e =>
    obtain ⟨v, A, rfl, o⟩ := owns1 oc
    simp only [lenD] at e
    by_cases z : x.length ≤ line
    · rw [if_pos z] at e
      cases e
      rw [own_str o]
      exact ⟨_, x.length, rfl, ⟨by rw [line_eq]; exact z, rfl⟩, q _ (.int _)⟩
    · rw [if_neg z] at e; cases e
/-! ### list(x), tuple(x) -/
def listD : List (D × Nat) → Option (D × Nat)
  | [(.list ds, n)] => if n ≤ 1 then some (.list ds, 1) else none
  | [(.tuple ds, _)] => some (.list ds, 1)
  | _ => none
def tupleD : List (D × Nat) → Option (D × Nat)
  | [(.list ds, n)] => if n ≤ 1 then some (.tuple ds, 0) else none
  | [(.tuple ds, _)] => some (.tuple ds, 0)
  | _ => none
theorem cd_list : CallD X (.type "list") listD := by
  refine ⟨_, call_list_of, fun F H vs ds c Q hd oc e q => ?_⟩
  match ds, e with
  | [(.list xs, n)], e =>
    simp only [listD] at e
    by_cases z : n ≤ 1
    · rw [if_pos z] at e
      cases e
      obtain ⟨v, A, rfl, o⟩ := owns1 oc
      obtain ⟨a, us, rfl, r, l⟩ := own_list1 o z
      refine ⟨a, us, rfl, .inl (r), fun p hp => ?_⟩
      obtain ⟨al, ow⟩ := alloc_list hp hd l
      exact q _ _ _ _ al ow
    · rw [if_neg z] at e; cases e
  | [(.tuple xs, n)], e =>
    cases e
    obtain ⟨v, A, rfl, o⟩ := owns1 oc
    obtain ⟨a, us, rfl, r, l⟩ := own_tuple o
    refine ⟨a, us, rfl, .inr r, fun p hp => ?_⟩
    obtain ⟨al, ow⟩ := alloc_list hp hd l
    exact q _ _ _ _ al ow
theorem cd_tuple : CallD X (.type "tuple") tupleD := by
  refine ⟨_, call_tuple_of, fun F H vs ds c Q hd oc e q => ?_⟩
  match ds, e with
  | [(.list xs, n)], e =>
    simp only [tupleD] at e
    by_cases z : n ≤ 1
    · rw [if_pos z] at e
      cases e
      obtain ⟨v, A, rfl, o⟩ := owns1 oc
      obtain ⟨a, us, rfl, r, l⟩ := own_list1 o z
      refine ⟨a, us, rfl, .inl ⟨r, fun p hp => ?_⟩⟩
      obtain ⟨al, ow⟩ := alloc_tuple hp hd l
      exact q _ _ _ [] al ⟨rfl, ow⟩
    · rw [if_neg z] at e; cases e
  | [(.tuple xs, n)], e =>
    cases e
    obtain ⟨v, A, rfl, o⟩ := owns1 oc
    have rp := (own_still o rfl).2
    obtain ⟨a, us, rfl, r, l⟩ := rep_tuple rp
    exact ⟨a, us, rfl, .inr ⟨r, q _ _ _ [] (Alloc.refl hd) ⟨rfl, rp⟩⟩⟩
/-! ### sorted of ints -/
def leB (a b : Int) : Bool := decide (a ≤ b)
def sortI (ns : List Int) : List Int := ns.mergeSort leB
theorem sortI_perm (ns : List Int) : (sortI ns).Perm ns := List.mergeSort_perm ns leB
theorem sortI_sorted (ns : List Int) : (sortI ns).Pairwise (· ≤ ·) := by
  have h := List.pairwise_mergeSort (le := leB) (fun a b c h1 h2 => by simp only [leB, decide_eq_true_eq] at *; omega) (fun a b => by simp only [leB, Bool.or_eq_true, decide_eq_true_eq]; omega) ns
  exact h.imp fun h => of_decide_eq_true h
theorem sorted_uniq : ∀ {xs ys : List Int}, xs.Perm ys → xs.Pairwise (· ≤ ·) → ys.Pairwise (· ≤ ·) → xs = ys
  | [], ys, p, _, _ => p.nil_eq
  | x :: xs, [], p, _, _ => p.eq_nil
  | x :: xs, y :: ys, p, hx, hy => by
    have h1 : x ≤ y := by
      rcases List.mem_cons.mp (p.mem_iff.mpr List.mem_cons_self) with e | e
      · exact Int.le_of_eq e.symm
      · exact (List.pairwise_cons.mp hx).1 y e
    have h2 : y ≤ x := by
      rcases List.mem_cons.mp (p.mem_iff.mp List.mem_cons_self) with e | e
      · exact Int.le_of_eq e.symm
      · exact (List.pairwise_cons.mp hy).1 x e
    have e : x = y := Int.le_antisymm h1 h2
    subst e
    rw [sorted_uniq p.cons_inv (List.pairwise_cons.mp hx).2 (List.pairwise_cons.mp hy).2]
def sortedI : List (D × Nat) → Option (D × Nat)
  | [(.list ds, _)] => (intsD ds).map fun ns => (.list ((sortI ns).map .int), 1)
  | _ => none
theorem cd_sortedI : CallD X (.builtin "sorted") sortedI := by
  refine ⟨_, cr_sortedI, fun F H vs ds c Q hd oc e q => ?_⟩
  match ds, e with
  | [(.list xs, n)], e =>
    simp only [sortedI] at e
    cases hi : intsD xs with
    | none => rw [hi] at e; cases e
    | some ns =>
      rw [hi] at e
      cases e
      obtain ⟨v, A, rfl, o⟩ := owns1 oc
      obtain ⟨a, us, B, rfl, r, l⟩ := own_list o
      rw [l.ints hi] at r
      refine ⟨a, ns, rfl, r, fun ns' p hp hs hn => ?_⟩
      have e : ns' = sortI ns := sorted_uniq (hp.trans (sortI_perm ns).symm) hs (sortI_sorted ns)
      subst e
      obtain ⟨al, ow⟩ := alloc_list hn hd (rep_ints (sortI ns))
      exact q _ _ _ _ al ow
/-! ### sum, all, any, max, min of lists; of two ints; abs, int -/
def sumD : List (D × Nat) → Option D
  | [(.list ds, _)] => (intsD ds).map fun ns => .int ns.sum
  | _ => none
theorem cp_sum (hc : X.calm = true) : CallP X (.builtin "sum") sumD := by
  refine ⟨_, cr_sum hc, fun F H vs ds d Q oc e q => ?_⟩
  match ds, e with
  | [(.list xs, n)], e =>
    simp only [sumD] at e
    cases hi : intsD xs with
    | none => rw [hi] at e; cases e
    | some ns =>
      rw [hi] at e
      cases e
      obtain ⟨v, A, rfl, o⟩ := owns1 oc
      obtain ⟨a, us, B, rfl, r, l⟩ := own_list o
      rw [l.ints hi] at r
      exact ⟨a, ns, rfl, r, q _ (.int _)⟩
def allD : List (D × Nat) → Option D
  | [(.list ds, _)] => (boolsD ds).map fun ns => .bool (ns.all id)
  | _ => none
theorem cp_all (hc : X.calm = true) : CallP X (.builtin "all") allD := by
  refine ⟨_, cr_all hc, fun F H vs ds d Q oc e q => ?_⟩
  match ds, e with
  | [(.list xs, n)], e =>
    simp only [allD] at e
    cases hi : boolsD xs with
    | none => rw [hi] at e; cases e
    | some ns =>
      rw [hi] at e
      cases e
      obtain ⟨v, A, rfl, o⟩ := owns1 oc
      obtain ⟨a, us, B, rfl, r, l⟩ := own_list o
      rw [l.bools hi] at r
      exact ⟨a, ns, rfl, r, q _ (.bl _)⟩
def anyD : List (D × Nat) → Option D
  | [(.list ds, _)] => (boolsD ds).map fun ns => .bool (ns.any id)
  | _ => none
theorem cp_any (hc : X.calm = true) : CallP X (.builtin "any") anyD := by
  refine ⟨_, cr_any hc, fun F H vs ds d Q oc e q => ?_⟩
  match ds, e with
  | [(.list xs, n)], e =>
    simp only [anyD] at e
    cases hi : boolsD xs with
    | none => rw [hi] at e; cases e
    | some ns =>
      rw [hi] at e
      cases e
      obtain ⟨v, A, rfl, o⟩ := owns1 oc
      obtain ⟨a, us, B, rfl, r, l⟩ := own_list o
      rw [l.bools hi] at r
      exact ⟨a, ns, rfl, r, q _ (.bl _)⟩
def max2 : List (D × Nat) → Option D
  | [(.int i, _), (.int j, _)] => some (.int (if j > i then j else i))
  | _ => none
def min2 : List (D × Nat) → Option D
  | [(.int i, _), (.int j, _)] => some (.int (if j < i then j else i))
  | _ => none
theorem cp_max2 (hc : X.calm = true) : CallP X (.builtin "max") max2 := by
  refine ⟨_, call_max2 hc, fun F H vs ds d Q oc e q => ?_⟩
  match ds, e with
  | [(.int i, n), (.int j, m)], e =>
    cases e
    obtain ⟨v, u, A, B, rfl, o1, o2⟩ := owns2 oc
    rw [own_int o1, own_int o2]
    exact ⟨i, j, rfl, q _ (.int _)⟩
theorem cp_min2 (hc : X.calm = true) : CallP X (.builtin "min") min2 := by
  refine ⟨_, call_min2 hc, fun F H vs ds d Q oc e q => ?_⟩
  match ds, e with
  | [(.int i, n), (.int j, m)], e =>
    cases e
    obtain ⟨v, u, A, B, rfl, o1, o2⟩ := owns2 oc
    rw [own_int o1, own_int o2]
    exact ⟨i, j, rfl, q _ (.int _)⟩
def absD : List (D × Nat) → Option D
  | [(.int i, _)] => some (.int (if i < 0 then -i else i))
  | _ => none
theorem cp_abs : CallP X (.builtin "abs") absD := by
  refine ⟨_, call_abs, fun F H vs ds d Q oc e q => ?_⟩
  match ds, e with
  | [(.int i, n)], e =>
    cases e
    obtain ⟨v, A, rfl, o⟩ := owns1 oc
    rw [own_int o]
    exact ⟨i, rfl, q _ (.int _)⟩
def intD : List (D × Nat) → Option D
  | [(.int i, _)] => some (.int i)
  | [(.bool b, _)] => some (.int (if b then 1 else 0))
  | _ => none
theorem cp_int : CallP X (.type "int") intD := by
  refine ⟨_, call_int1, fun F H vs ds d Q oc e q => ?_⟩
  match ds, e with
  | [(.int i, n)], e =>
    cases e
    obtain ⟨v, A, rfl, o⟩ := owns1 oc
    rw [own_int o]
    exact .inl ⟨i, rfl, q _ (.int _)⟩
  | [(.bool i, n)], e =>
    cases e
    obtain ⟨v, A, rfl, o⟩ := owns1 oc
    rw [own_bool o]
    exact .inr ⟨i, rfl, q _ (.int _)⟩

/-! ### isinstance -/
def tyN : D → String
  | .none => "NoneType"
  | .bool _ => "bool"
  | .int _ => "int"
  | .str _ => "str"
  | .list _ => "list"
  | .tuple _ => "tuple"
  | .dict _ => "dict"
def isTN (T n : String) : Bool := T == n || (n == "bool" && T == "int")
def isT (T : String) (d : D) : Bool := isTN T (tyN d)
theorem kit_tbl : ∀ T ∈ ["bool", "int", "str", "list", "tuple"], ∀ n ∈ ["NoneType", "bool", "int", "str", "list", "tuple"], kitB n T = some (isTN T n) := by decide +kernel
theorem own_ty {K : PySem.W.Frag} {F : AS} {H : Hp} {n : Nat} {d : D} {v : V} {A : List Addr} (o : Own K F H n d v A) (hd : ∀ kvs, d ≠ .dict kvs) : TyX K H v (.type (tyN d)) := by
  cases d with
  | none => rw [own_none o]; exact .base .non
  | bool b => rw [own_bool o]; exact .base (.bl b)
  | int i => rw [own_int o]; exact .base (.int i)
  | str x => rw [own_str o]; exact .base (.str x)
  | list ds =>
    obtain ⟨a, us, B, rfl, r, l⟩ := own_list o
    rcases r with (r | ⟨ob, r⟩) | ⟨ob, its, m, hk, hc, _⟩
    · exact .base (.lst r)
    · exact .base (.frz r)
    · exact .kList hk hc
  | tuple ds =>
    obtain ⟨a, us, rfl, r, l⟩ := own_tuple o
    rcases r with (r | ⟨ob, r⟩) | ⟨ob, its, m, hk, hc, _⟩
    · exact .base (.tup r)
    · exact .fTuple r
    · exact .kTuple hk hc
  | dict kvs => exact absurd rfl (hd kvs)
def noDictTop : D → Bool
  | .dict _ => false
  | _ => true
theorem kit_all {K : PySem.W.Frag} (T : String) (hT : ["bool", "int", "str", "list", "tuple"].contains T = true) (d : D) (hd : noDictTop d = true) : PySem.W.kitOne K (.type (tyN d)) (.type T) = some (isT T d) := by
  refine kit_ty (kit_tbl T (by simpa using hT) (tyN d) ?_)
  cases d <;> first | (cases hd; done) | simp [tyN]
section
variable {a : Expr} {pos p p2 : Pos}
def isinst1 (T : String) (x : D × Nat) : Option (D × Nat) := if noDictTop x.1 = true then some (.bool (isT T x.1), 0) else none
/-- isinstance(e, T) -/
theorem dp_isinst {T : String} {xT : Str} {f : Env' → Option (D × Nat)} (hg : Gl X "isinstance") (hm : X.mg "isinstance" = none) (hgT : Gl X xT) (hmT : X.mg xT = none) (hvT : bootBuiltins xT = some (.type T)) (hT : ["bool", "int", "str", "list", "tuple"].contains T = true) (ha : DP X a f)
    (hn : xT ≠ "__name__" := by decide) (hdb : (xT == ("__debug__" : Str)) = false := by decide)
    (he1 : starEach [.Name xT p2] X.env = (false, eval (.Name xT p2) X.env) :: starEach [] X.env := by rfl)
    (he : starEach [a, .Name xT p2] X.env = (false, eval a X.env) :: starEach [.Name xT p2] X.env := by rfl) (hpl : (backTo pos (starEach [.Name xT p2] X.env)).any (·.1) = false := by rfl) :
    DP X (.Call (.Name "isinstance" p) [a, .Name xT p2] [] pos) fun ρ => (f ρ).bind (isinst1 T) := by
  obtain ⟨t, pa, qa⟩ := ha
  refine ⟨_, pe_callB call_isi hg hm (by decide +kernel) (pa_cons pa (pa_cons (pe_bltn hgT hmT hvT (v := .ty T) rfl hn hdb) pa_nil he1) he) (by decide) (by decide) he hpl, fun ρ F P σ H Q d n hl rr e q => ?_⟩
  cases hf : f ρ with
  | none => rw [hf] at e; cases e
  | some x =>
    rw [hf] at e
    simp only [Option.bind_some, isinst1] at e
    by_cases z : noDictTop x.1 = true
    · rw [if_pos z] at e
      cases e
      refine qa ρ F P σ H _ x.1 x.2 hl rr hf fun v A o => ?_
      exact ⟨_, _, .type (tyN x.1), .type T, isT T x.1, rfl, .ty T, own_ty o (fun kvs hk => by rw [hk] at z; cases z), kit_all T hT x.1 z, q _ [] ⟨rfl, .bl _⟩⟩
    · rw [if_neg z] at e; cases e
def isinst2 (T T' : String) (x : D × Nat) : Option D := if noDictTop x.1 = true then some (.bool (isT T x.1 || isT T' x.1)) else none
/-- isinstance(e, (T, T')) -/
theorem de_isinst2 {E : Exs} {T T' : String} {xT xT' : Str} {kk : Nat} {p3 p4 : Pos} {f : Env' → Option (D × Nat)} (hg : Gl X "isinstance") (hm : X.mg "isinstance" = none) (hgT : Gl X xT) (hmT : X.mg xT = none) (hvT : bootBuiltins xT = some (.type T)) (hT : ["bool", "int", "str", "list", "tuple"].contains T = true)
    (hgT' : Gl X xT') (hmT' : X.mg xT' = none) (hvT' : bootBuiltins xT' = some (.type T')) (hT' : ["bool", "int", "str", "list", "tuple"].contains T' = true) (ha : DP X a f)
    (hn : xT ≠ "__name__" := by decide) (hdb : (xT == ("__debug__" : Str)) = false := by decide) (hn' : xT' ≠ "__name__" := by decide) (hdb' : (xT' == ("__debug__" : Str)) = false := by decide)
    (hs1 : starEach [.Name xT p2, .Name xT' p3] X.env = (false, eval (.Name xT p2) X.env) :: starEach [.Name xT' p3] X.env := by rfl)
    (hs2 : starEach [.Name xT' p3] X.env = (false, eval (.Name xT' p3) X.env) :: starEach [] X.env := by rfl)
    (he1 : starEach [.Tuple [.Name xT p2, .Name xT' p3] kk p4] X.env = (false, eval (.Tuple [.Name xT p2, .Name xT' p3] kk p4) X.env) :: starEach [] X.env := by rfl)
    (he : starEach [a, .Tuple [.Name xT p2, .Name xT' p3] kk p4] X.env = (false, eval a X.env) :: starEach [.Tuple [.Name xT p2, .Name xT' p3] kk p4] X.env := by rfl) (hpl : (backTo pos (starEach [.Tuple [.Name xT p2, .Name xT' p3] kk p4] X.env)).any (·.1) = false := by rfl) :
    DE X E (.Call (.Name "isinstance" p) [a, .Tuple [.Name xT p2, .Name xT' p3] kk p4] [] pos) fun ρ => liftO ((f ρ).bind (isinst2 T T')) >>= fun d => .ok (d, 0, ρ) := by
  obtain ⟨t, pa, qa⟩ := ha
  refine ⟨_, pe_callB call_isiT hg hm (by decide +kernel) (pa_cons pa (pa_cons (pe_tup (pa_cons (pe_bltn hgT hmT hvT (v := .ty T) rfl hn hdb) (pa_cons (pe_bltn hgT' hmT' hvT' (v := .ty T') rfl hn' hdb') pa_nil hs2) hs1)) pa_nil he1) he) (by decide) (by decide) he hpl, fun ρ F P σ H Q hl rr h => ?_⟩
  cases hf : f ρ with
  | none => rw [hf] at h; exact h.elim
  | some x =>
    rw [hf] at h
    simp only [Option.bind_some, isinst2] at h
    by_cases z : noDictTop x.1 = true
    · rw [if_pos z] at h
      refine qa ρ F P σ H _ x.1 x.2 hl rr hf fun v A o => ⟨by rw [line_eq]; show 2 ≤ line; decide, fun tp hp => ?_⟩
      have al : Alloc F H F (upd H tp (.tup [.ty T, .ty T'])) [] := ⟨fun a o e _ => same_new hp _ a o e, fun _ f => f, fun _ f => .inl f, fun a ha => (by cases ha), List.nodup_nil, fun a f => (by rw [upd_ne fun z => rr.dom a (.inl f) (by rw [z]; exact hp)]; exact rr.dom a (.inl f)), fun a vs q => same_new hp _ a _ q⟩
      have o' : Own X.K F (upd H tp (.tup [.ty T, .ty T'])) x.2 x.1 v A := o.mono (grow_new hp _ fun a f => rr.dom a (.inl f)) fun a ha => upd_ne fun z => o.there a ha (by rw [z]; exact hp)
      refine ⟨v, tp, [.ty T, .ty T'], .type (tyN x.1), [.type T, .type T'], isT T x.1 || isT T' x.1, rfl, upd_same, .cons (.ty T) (.cons (.ty T') .nil), own_ty o' (fun kvs hk => by rw [hk] at z; cases z), ?_, h _ _ F [] (al.step rr) (al.rel rr) ⟨rfl, .bl _⟩⟩
      refine kitAny_cons (kit_all T hT x.1 z) (fun hb => ?_) (fun hb => by rw [hb]; rfl)
      refine kitAny_cons (kit_all T' hT' x.1 z) (fun hb' => ?_) (fun hb' => by rw [hb', Bool.or_true])
      rw [hb, hb']; exact kitAny_nil
    · rw [if_neg z] at h; exact h.elim
end
end
end DL

namespace DL
open PySem PySem.Spec PyProof.Rows L2

/-! ### a[b] -/
/-- an item in place -/
def ixD (x : D × Nat) (y : D) : Option (D × Nat) := match x, y with
  | (.list ds, n), .int i => (atI ds i).map fun d => (d, n - 1)
  | (.tuple ds, _), .int i => (atI ds i).map fun d => (d, 0)
  | (.str z, _), .int i => if z.length ≤ line then (atI z.cps.toList i).map fun c => (.str ⟨#[c]⟩, 0) else none
  | _, _ => none
theorem atI_some {α β : Type} {xs : List α} {ys : List β} {i : Int} {x : α} (hl : ys.length = xs.length) (h : atI xs i = some x) : ∃ j : Nat, xs[j]? = some x ∧ ∀ y, ys[j]? = some y → atI ys i = some y := by
  unfold atI at h
  cases e : ixN xs.length i with
  | none => rw [e] at h; cases h
  | some j =>
    rw [e] at h
    refine ⟨j, h, fun y hy => ?_⟩
    unfold atI
    rw [hl, e]
    exact hy
section
variable {X : Cx} {E : Exs} {a b e : Expr} {pos : Pos}
/-- items by values: what the two operands are -/
theorem ix_core {K : PySem.W.Frag} {F : AS} {H : Hp} {x y : V} {p : D × Nat} {dy : D} {ny : Nat} {A B : List Addr} {c : D × Nat} {Q : VK} (o1 : Own K F H p.2 p.1 x A) (o2 : Own K F H ny dy y B) (h : ixD p dy = some c)
    (q : ∀ v C, (∀ a ∈ C, a ∈ A) → Own K F H c.2 c.1 v C → Q v H) : (rIxL K x y H Q ∨ (rIxT K x y H Q ∨ rIxS x y H Q)) := by
  obtain ⟨d, n⟩ := p
  cases d <;> try (simp only [ixD] at h; cases h)
  · rename_i z
    cases dy <;> try (simp only [ixD] at h; cases h)
    rename_i i
    simp only [ixD] at h
    by_cases hz : z.length ≤ line
    · rw [if_pos hz] at h
      cases hc : atI z.cps.toList i with
      | none => rw [hc] at h; cases h
      | some ch =>
        rw [hc] at h
        cases h
        rw [own_str o1, own_int o2]
        exact .inr (.inr ⟨z, i, ch, rfl, rfl, by rw [line_eq]; exact hz, hc, q _ [] (fun a ha => by cases ha) ⟨rfl, .str _⟩⟩)
    · rw [if_neg hz] at h; cases h
  · rename_i ds
    cases dy <;> try (simp only [ixD] at h; cases h)
    rename_i i
    simp only [ixD] at h
    cases hc : atI ds i with
    | none => rw [hc] at h; cases h
    | some d =>
      rw [hc] at h
      cases h
      rw [own_int o2]
      cases n with
      | zero =>
        obtain ⟨a, us, B', rfl, r, l⟩ := own_list o1
        obtain ⟨j, hj, hy⟩ := atI_some (ys := us) l.length hc
        obtain ⟨v, C, hv, ov, hC⟩ := l.get hj
        refine .inl ⟨a, us, i, v, rfl, rfl, r, hy v hv, ?_⟩
        obtain ⟨e1, _⟩ := AllOwn.nil_of l
        subst e1
        exact q v C (fun a ha => by cases hC a ha) ov
      | succ n =>
        rcases o1 with ⟨_, s, _⟩ | ⟨ds', a', vs', B2, e0, ev, e1, eA, l'⟩ | ⟨_, _, _, e0, _⟩ | ⟨_, _, _, e0, _⟩
        · cases s
        · cases e0
          cases ev
          obtain ⟨j, hj, hy⟩ := atI_some (ys := vs') l'.length hc
          obtain ⟨v2, C2, hv2, ov2, hC2⟩ := l'.get hj
          subst eA
          exact .inl ⟨a', vs', i, v2, rfl, rfl, .inl (.inl e1), hy v2 hv2, q v2 C2 (fun a ha => List.mem_cons_of_mem _ (hC2 a ha)) ov2⟩
        · cases e0
        · cases e0
  · rename_i ds
    cases dy <;> try (simp only [ixD] at h; cases h)
    rename_i i
    simp only [ixD] at h
    cases hc : atI ds i with
    | none => rw [hc] at h; cases h
    | some d =>
      rw [hc] at h
      cases h
      obtain ⟨a, us, rfl, r, l⟩ := own_tuple o1
      obtain ⟨j, hj, hy⟩ := atI_some (ys := us) l.length hc
      obtain ⟨v, hv, ov⟩ := l.get hj
      rw [own_int o2]
      exact .inr (.inl ⟨a, us, i, v, rfl, rfl, r, hy v hv, q v [] (fun a ha => by cases ha) ⟨rfl, ov⟩⟩)
theorem dp_ix {f f' : Env' → Option (D × Nat)} (ha : DP X a f) (hb : DP X b f') (hs : PlainIx b := by exact fun _ _ => rfl) : DP X (.Subscript a b pos) fun ρ => (f ρ).bind fun x => (f' ρ).bind fun y => ixD x y.1 := by
  obtain ⟨ta, pa, qa⟩ := ha
  obtain ⟨tb, pb, qb⟩ := hb
  refine ⟨_, pe_ix ix_seq pa pb hs, fun ρ F P σ H Q d n hl rr e q => ?_⟩
  cases hf : f ρ with
  | none => rw [hf] at e; cases e
  | some x =>
    rw [hf] at e
    cases hf' : f' ρ with
    | none => rw [hf'] at e; cases e
    | some y =>
      rw [hf'] at e
      simp only [Option.bind_some] at e
      exact qa ρ F P σ H _ x.1 x.2 hl rr hf fun v A o1 => qb ρ F P σ H _ y.1 y.2 hl rr hf' fun u B o2 => ix_core o1 o2 e fun v C _ oc => q v C oc
/-- an item as one's own: of what holds no owned lists -/
def ixE (x y : D × Nat) : Option D := (ixD x y.1).bind fun c => if c.2 = 0 ∨ still c.1 = true then some c.1 else none
theorem de_ix {f : Env' → Res ((D × Nat) × (D × Nat) × Env')} (hab : D2 X E a b f) (hs : PlainIx b := by exact fun _ _ => rfl) :
    DE X E (.Subscript a b pos) fun ρ => f ρ >>= fun s => liftO (ixE s.1 s.2.1) >>= fun d => .ok (d, 0, s.2.2) := by
  obtain ⟨ta, tb, pa, pb, q2⟩ := hab
  refine ⟨_, pe_ix ix_seq pa pb hs, fun ρ F P σ H Q hl rr hh => ?_⟩
  refine q2 ρ F P σ H _ hl rr (hh.bind.same fun s hs v u H1 F1 A B st r1 o1 o2 => ?_)
  cases hg : ixE s.1 s.2.1 with
  | none => rw [hg] at hs; exact hs.elim
  | some d =>
    rw [hg] at hs
    unfold ixE at hg
    cases hc : ixD s.1 s.2.1.1 with
    | none => rw [hc] at hg; cases hg
    | some c =>
      rw [hc] at hg
      simp only [Option.bind_some] at hg
      by_cases z : c.2 = 0 ∨ still c.1 = true
      · rw [if_pos z] at hg
        cases hg
        exact ix_core o1 o2 hc fun w C _ oc => hs w H1 F1 [] st r1 ⟨rfl, (oc.still z).2⟩
      · rw [if_neg z] at hg; cases hg

/-! ### slices -/
structure DO (X : Cx) (e : Option Expr) (f : Env' → Option (Option Int)) : Prop where
  ex : ∃ t, PO X e t ∧ ∀ (ρ : Env') (F P : AS) (σ : L2.St) (H : Hp) (Q : Option Int → Hp → Prop) (o : Option Int), ρ.length = X.N.length → Rel X.K F P ρ σ H → f ρ = some o → Q o H → t σ H Q
theorem do_none : DO X none fun _ => some none := ⟨_, po_none, fun ρ F P σ H Q o hl rr e q => by cases e; exact q⟩
def isI (d : D) : Option Int := match d with
  | .int i => some i
  | _ => none
theorem do_some {f : Env' → Option (D × Nat)} (h : DP X e f) : DO X (some e) fun ρ => (f ρ).bind fun x => (isI x.1).map some := by
  obtain ⟨t, pe, qe⟩ := h
  refine ⟨_, po_some pe, fun ρ F P σ H Q o hl rr e q => ?_⟩
  cases hf : f ρ with
  | none => rw [hf] at e; cases e
  | some x =>
    rw [hf] at e
    obtain ⟨d, n⟩ := x
    cases d <;> simp only [Option.bind_some, isI] at e <;> cases e
    exact qe ρ F P σ H _ _ _ hl rr hf fun v A o => ⟨_, own_int o, q⟩
def cutD (ds : List D) (lo hi : Option Int) : List D := (ds.drop (HT.sIx ds.length 0 lo)).take (HT.sIx ds.length ds.length hi - HT.sIx ds.length 0 lo)
theorem cut_rep {K : PySem.W.Frag} {F : AS} {H : Hp} {ds : List D} {vs : List V} (l : RepL K F H ds vs) (lo hi : Option Int) : RepL K F H (cutD ds lo hi) (cutV vs lo hi) := by
  unfold cutD cutV
  rw [l.length]
  exact (l.drop _).take _
def slD (x : D × Nat) (lo hi : Option Int) : Option (D × Nat) := match x with
  | (.list ds, n) => if n ≤ 1 then some (.list (cutD ds lo hi), 1) else none
  | (.tuple ds, _) => some (.tuple (cutD ds lo hi), 0)
  | _ => none
theorem cut_whole (ds : List D) (lo hi : Option Int) (h : HT.sIx ds.length 0 lo = 0 ∧ HT.sIx ds.length ds.length hi = ds.length) : cutD ds lo hi = ds := by
  unfold cutD
  rw [h.1, h.2]
  simp
theorem de_slice {lo hi : Option Expr} {p2 : Pos} {f : Env' → Res (D × Nat × Env')} {fl fh : Env' → Option (Option Int)} (he : D1 X E e f) (hl : DO X lo fl) (hh : DO X hi fh) :
    DE X E (.Subscript e (.Slice lo hi none p2) pos) fun ρ => f ρ >>= fun x => liftO ((fl x.2.2).bind fun l => (fh x.2.2).bind fun h => slD (x.1, x.2.1) l h) >>= fun c => .ok (c.1, c.2, x.2.2) := by
  obtain ⟨te, pe, qe⟩ := he
  obtain ⟨tl, pl, ql⟩ := hl
  obtain ⟨th, ph, qh⟩ := hh
  refine ⟨_, pe_slice (sl_list.or sl_tupA) pe pl ph, fun ρ F P σ H Q hlen rr hq => ?_⟩
  refine qe ρ F P σ H _ hlen rr (hq.bind.same fun x hx v H1 F1 A st r1 o => ?_)
  have hl1 := rel_len rr hlen r1
  cases hfl : fl x.2.2 with
  | none => rw [hfl] at hx; exact hx.elim
  | some l =>
    rw [hfl] at hx
    cases hfh : fh x.2.2 with
    | none => rw [hfh] at hx; exact hx.elim
    | some h =>
      rw [hfh] at hx
      simp only [Option.bind_some] at hx
      refine ql x.2.2 F1 P σ H1 _ l hl1 r1 hfl (qh x.2.2 F1 P σ H1 _ h hl1 r1 hfh ?_)
      obtain ⟨d, n, ρ1⟩ := x
      simp only at hx o r1
      have hd : ∀ a, F1 a → H1 a ≠ none := fun a z => r1.dom a (.inl z)
      cases d <;> try exact hx.elim
      · rename_i ds
        simp only [slD] at hx
        by_cases z : n ≤ 1
        · rw [if_pos z] at hx
          obtain ⟨a, us, rfl, r, lr⟩ := own_list1 o z
          refine .inl ⟨a, us, rfl, r, fun p hp => ?_⟩
          obtain ⟨al, ow⟩ := alloc_list hp hd (cut_rep lr l h)
          exact hx _ _ F1 _ (st.trans (al.step r1)) (al.rel r1) ow
        · rw [if_neg z] at hx; exact hx.elim
      · rename_i ds
        simp only [slD] at hx
        have rp := (own_still o rfl).2
        obtain ⟨a, us, rfl, r, lr⟩ := rep_tuple rp
        refine .inr ⟨a, us, rfl, r, fun w => ?_, fun w p hp => ?_⟩
        · rw [lr.length] at w
          rw [cut_whole ds l h w] at hx
          exact hx _ H1 F1 [] st r1 ⟨rfl, rp⟩
        · obtain ⟨al, ow⟩ := alloc_tuple hp hd (cut_rep lr l h)
          exact hx _ _ _ [] (st.trans (al.step r1)) (al.rel r1) ⟨rfl, ow⟩

/-! ### displays -/
variable {es : List Expr}
theorem de_tuple {x1 : Nat} {f : Env' → Res (List D × Env')} (h : DA X E es f) : DE X E (.Tuple es x1 pos) fun ρ => f ρ >>= fun r => if r.1.length ≤ line then .ok (.tuple r.1, 0, r.2) else .stuck := by
  obtain ⟨t, pa, qa⟩ := h
  refine ⟨_, pe_tup pa, fun ρ F P σ H Q hl rr hh => qa ρ F P σ H _ hl rr (hh.bind.same fun r hr vs H1 F1 st r1 l => ?_)⟩
  by_cases z : r.1.length ≤ line
  · rw [if_pos z] at hr
    refine ⟨by rw [l.length, line_eq]; exact z, fun p hp => ?_⟩
    obtain ⟨al, ow⟩ := alloc_tuple hp (fun a f => r1.dom a (.inl f)) l
    exact hr _ _ _ [] (st.trans (al.step r1)) (al.rel r1) ⟨rfl, ow⟩
  · rw [if_neg z] at hr; exact hr.elim
theorem de_list {f : Env' → Res (List D × Env')} (h : DA X E es f) : DE X E (.List es pos) fun ρ => f ρ >>= fun r => if r.1.length ≤ line then .ok (.list r.1, 1, r.2) else .stuck := by
  obtain ⟨t, pa, qa⟩ := h
  refine ⟨_, pe_lst pa, fun ρ F P σ H Q hl rr hh => qa ρ F P σ H _ hl rr (hh.bind.same fun r hr vs H1 F1 st r1 l => ?_)⟩
  by_cases z : r.1.length ≤ line
  · rw [if_pos z] at hr
    refine ⟨by rw [l.length, line_eq]; exact z, fun p hp => ?_⟩
    obtain ⟨al, ow⟩ := alloc_list hp (fun a f => r1.dom a (.inl f)) l
    exact hr _ _ _ _ (st.trans (al.step r1)) (al.rel r1) ow
  · rw [if_neg z] at hr; exact hr.elim

/-! ### list(range(..)), tuple(range(..)) -/
def rngD (a b : Int) : List D := (List.range (b - a).toNat).map fun i => .int (a + (i : Nat))
theorem rng_rep {K : PySem.W.Frag} {F : AS} {H : Hp} (a b : Int) : RepL K F H (rngD a b) (rgV a b) := by
  have h := rep_ints (K := K) (F := F) (H := H) ((List.range (b - a).toNat).map fun i => a + (i : Nat))
  rw [List.map_map, List.map_map] at h
  exact h
/-- an expression that makes a range -/
structure DR (X : Cx) (E : Exs) (e : Expr) (f : Env' → Res (Int × Int × Env')) : Prop where
  ex : ∃ t, PRg X e t ∧ ∀ (ρ : Env') (F P : AS) (σ : L2.St) (H : Hp) (Q : Int → Int → Hp → Prop), ρ.length = X.N.length → Rel X.K F P ρ σ H →
    Post X E F P σ H (f ρ) (fun r => ∀ H' F', Step F P H F' H' → Rel X.K F' P r.2.2 σ H' → Q r.1 r.2.1 H') → t σ H Q
theorem dr_1 {p : Pos} {f : Env' → Res (D × Nat × Env')} (hg : Gl X "range") (hm : X.mg "range" = none) (ha : D1 X E a f) (na : starEach [a] X.env = (false, eval a X.env) :: starEach [] X.env := by rfl) :
    DR X E (.Call (.Name "range" p) [a] [] pos) fun ρ => f ρ >>= fun x => liftO (isI x.1) >>= fun i => .ok (0, i, x.2.2) := by
  obtain ⟨t, pe, qe⟩ := ha
  refine ⟨_, prg_1 hg hm pe na, fun ρ F P σ H Q hl rr hh => qe ρ F P σ H _ hl rr (hh.bind.same fun x hx v H1 F1 A st r1 o => ?_)⟩
  obtain ⟨d, n, ρ1⟩ := x
  cases d <;> try exact hx.elim
  exact ⟨_, own_int o, hx H1 F1 st r1⟩
theorem dr_2 {p : Pos} {f : Env' → Res ((D × Nat) × (D × Nat) × Env')} (hg : Gl X "range") (hm : X.mg "range" = none) (hab : D2 X E a b f) (na : starEach [a, b] X.env = (false, eval a X.env) :: starEach [b] X.env := by rfl)
    (nb : starEach [b] X.env = (false, eval b X.env) :: starEach [] X.env := by rfl) (hp : (backTo pos (starEach [b] X.env)).any (·.1) = false := by rfl) :
    DR X E (.Call (.Name "range" p) [a, b] [] pos) fun ρ => f ρ >>= fun s => liftO (isI s.1.1) >>= fun i => liftO (isI s.2.1.1) >>= fun j => .ok (i, j, s.2.2) := by
  obtain ⟨ta, tb, pa, pb, q2⟩ := hab
  refine ⟨_, prg_2 hg hm pa pb na nb hp, fun ρ F P σ H Q hl rr hh => q2 ρ F P σ H _ hl rr (hh.bind.same fun s hs v u H1 F1 A B st r1 o1 o2 => ?_)⟩
  obtain ⟨⟨d, n⟩, ⟨d', n'⟩, ρ1⟩ := s
  cases d <;> try exact hs.elim
  cases d' <;> try exact hs.elim
  exact ⟨_, _, own_int o1, own_int o2, hs H1 F1 st r1⟩
instance (a b : Int) : Decidable (RgOk a b) := by unfold RgOk; infer_instance
theorem de_listRg {p : Pos} {f : Env' → Res (Int × Int × Env')} (hc : X.calm = true) (hg : Gl X "list") (hm : X.mg "list" = none) (he : DR X E e f) (na : starEach [e] X.env = (false, eval e X.env) :: starEach [] X.env := by rfl) :
    DE X E (.Call (.Name "list" p) [e] [] pos) fun ρ => f ρ >>= fun r => if RgOk r.1 r.2.1 then .ok (.list (rngD r.1 r.2.1), 1, r.2.2) else .stuck := by
  obtain ⟨t, pa, qa⟩ := he
  refine ⟨_, pe_listRg hc hg hm pa na, fun ρ F P σ H Q hl rr hh => qa ρ F P σ H _ hl rr (hh.bind.same fun r hr H1 F1 st r1 => ?_)⟩
  by_cases z : RgOk r.1 r.2.1
  · rw [if_pos z] at hr
    refine ⟨z, fun p hp => ?_⟩
    obtain ⟨al, ow⟩ := alloc_list hp (fun a f => r1.dom a (.inl f)) (rng_rep r.1 r.2.1)
    exact hr _ _ _ _ (st.trans (al.step r1)) (al.rel r1) ow
  · rw [if_neg z] at hr; exact hr.elim
theorem de_tupRg {p : Pos} {f : Env' → Res (Int × Int × Env')} (hc : X.calm = true) (hg : Gl X "tuple") (hm : X.mg "tuple" = none) (he : DR X E e f) (na : starEach [e] X.env = (false, eval e X.env) :: starEach [] X.env := by rfl) :
    DE X E (.Call (.Name "tuple" p) [e] [] pos) fun ρ => f ρ >>= fun r => if RgOk r.1 r.2.1 then .ok (.tuple (rngD r.1 r.2.1), 0, r.2.2) else .stuck := by
  obtain ⟨t, pa, qa⟩ := he
  refine ⟨_, pe_tupRg hc hg hm pa na, fun ρ F P σ H Q hl rr hh => qa ρ F P σ H _ hl rr (hh.bind.same fun r hr H1 F1 st r1 => ?_)⟩
  by_cases z : RgOk r.1 r.2.1
  · rw [if_pos z] at hr
    refine ⟨z, fun p hp => ?_⟩
    obtain ⟨al, ow⟩ := alloc_tuple hp (fun a f => r1.dom a (.inl f)) (rng_rep r.1 r.2.1)
    exact hr _ _ _ [] (st.trans (al.step r1)) (al.rel r1) ⟨rfl, ow⟩
  · rw [if_neg z] at hr; exact hr.elim
/-! ### -x, chains -/
def negD : D → Option D
  | .int i => some (.int (-i))
  | _ => none
theorem dp_neg {f : Env' → Option (D × Nat)} (h : DP X a f) : DP X (.UnaryOp .USub a pos) fun ρ => (f ρ).bind fun x => (negD x.1).map fun d => (d, 0) := by
  obtain ⟨t, pe, qe⟩ := h
  refine ⟨_, pe_un un_neg pe, fun ρ F P σ H Q d n hl rr e q => ?_⟩
  cases hf : f ρ with
  | none => rw [hf] at e; cases e
  | some x =>
    rw [hf] at e
    obtain ⟨d', n'⟩ := x
    cases d' <;> simp only [Option.bind_some, negD] at e <;> cases e
    exact qe ρ F P σ H _ _ _ hl rr hf fun v A o => ⟨_, own_int o, q _ [] ⟨rfl, .int _⟩⟩
def chainD (g g' : D → D → Option D) (x y z : D) : Option D := (g x y).bind fun k => (isB k).bind fun k => if k = true then g' y z else some (.bool false)
theorem chain_core {c : Expr} {g g' : D → D → Option D} {f1 f2 f3 : Env' → Option (D × Nat)} {r r' : R2} {ta tb tc : TE}
    (h : ∀ (F : AS) (H : Hp) (x y : V) (da db d : D) (na nb : Nat) (A B : List Addr) (Q : VK), Own X.K F H na da x A → Own X.K F H nb db y B → g da db = some d → (∀ v, Rep X.K F H d v → Q v H) → r x y H Q)
    (h' : ∀ (F : AS) (H : Hp) (x y : V) (da db d : D) (na nb : Nat) (A B : List Addr) (Q : VK), Own X.K F H na da x A → Own X.K F H nb db y B → g' da db = some d → (∀ v, Rep X.K F H d v → Q v H) → r' x y H Q)
    (qa : ∀ (ρ : Env') (F P : AS) (σ : L2.St) (H : Hp) (Q : VK) (d : D) (n : Nat), ρ.length = X.N.length → Rel X.K F P ρ σ H → f1 ρ = some (d, n) → (∀ v A, Own X.K F H n d v A → Q v H) → ta σ H Q)
    (qb : ∀ (ρ : Env') (F P : AS) (σ : L2.St) (H : Hp) (Q : VK) (d : D) (n : Nat), ρ.length = X.N.length → Rel X.K F P ρ σ H → f2 ρ = some (d, n) → (∀ v A, Own X.K F H n d v A → Q v H) → tb σ H Q)
    (qc : ∀ (ρ : Env') (F P : AS) (σ : L2.St) (H : Hp) (Q : VK) (d : D) (n : Nat), ρ.length = X.N.length → Rel X.K F P ρ σ H → f3 ρ = some (d, n) → (∀ v A, Own X.K F H n d v A → Q v H) → tc σ H Q)
    (hB : ∀ x y d, g x y = some d → ∃ k, d = .bool k) {ρ : Env'} {F P : AS} {σ : L2.St} {H : Hp} {Q : VK} {d : D} {n : Nat} (hl : ρ.length = X.N.length) (rr : Rel X.K F P ρ σ H)
    (e : ((f1 ρ).bind fun x => (f2 ρ).bind fun y => (f3 ρ).bind fun z => (chainD g g' x.1 y.1 z.1).map fun d => (d, 0)) = some (d, n)) (q : ∀ v A, Own X.K F H n d v A → Q v H) : tChain r r' ta tb tc σ H Q := by
  cases e1 : f1 ρ with
  | none => rw [e1] at e; cases e
  | some x =>
  cases e2 : f2 ρ with
  | none => rw [e1, e2] at e; cases e
  | some y =>
  cases e3 : f3 ρ with
  | none => rw [e1, e2, e3] at e; cases e
  | some z =>
  rw [e1, e2, e3] at e
  simp only [Option.bind_some, chainD] at e
  cases e4 : g x.1 y.1 with
  | none => rw [e4] at e; cases e
  | some k =>
  obtain ⟨kb, rfl⟩ := hB _ _ _ e4
  rw [e4] at e
  simp only [Option.bind_some, isB] at e
  refine qa ρ F P σ H _ x.1 x.2 hl rr e1 fun v A o1 => qb ρ F P σ H _ y.1 y.2 hl rr e2 fun u B o2 => h F H v u _ _ _ _ _ A B _ o1 o2 e4 fun w rw' => ?_
  cases rw'
  refine ⟨kb, rfl, ?_⟩
  by_cases ck : kb = true
  · rw [if_pos ck] at e ⊢
    cases e5 : g' y.1 z.1 with
    | none => rw [e5] at e; cases e
    | some d' =>
      rw [e5] at e
      cases e
      exact qc ρ F P σ H _ z.1 z.2 hl rr e3 fun w' C o3 => h' F H u w' _ _ _ _ _ B C Q o2 o3 e5 fun v rp => q v [] ⟨rfl, rp⟩
  · rw [if_neg ck] at e ⊢
    cases e
    exact q _ [] ⟨rfl, .bl false⟩
theorem dp_chain {c : Expr} {op op' : CmpOp} {g g' : D → D → Option D} {f1 f2 f3 : Env' → Option (D × Nat)} (ho : OpP X (compareOp op) g) (ho' : OpP X (compareOp op') g') (ha : DP X a f1) (hb : DP X b f2) (hc : DP X c f3) (hB : ∀ x y d, g x y = some d → ∃ k, d = .bool k) (hB' : ∀ x y d, g' x y = some d → ∃ k, d = .bool k)
    (hm : lastMarks [op, op'] [b, c] = false := by with_unfolding_all rfl) : DP X (.Compare a [op, op'] [b, c] pos) fun ρ => (f1 ρ).bind fun x => (f2 ρ).bind fun y => (f3 ρ).bind fun z => (chainD g g' x.1 y.1 z.1).map fun d => (d, 0) := by
  obtain ⟨r, hr, h⟩ := ho
  obtain ⟨r', hr', h'⟩ := ho'
  obtain ⟨ta, pa, qa⟩ := ha
  obtain ⟨tb, pb, qb⟩ := hb
  obtain ⟨tc, pc, qc⟩ := hc
  refine ⟨_, pe_chain hr hr' pa pb pc hm, fun ρ F P σ H Q d n hl rr e q => chain_core (c := c) h h' qa qb qc hB hl rr e q⟩
theorem dt_chain {c : Expr} {op op' : CmpOp} {g g' : D → D → Option D} {f1 f2 f3 : Env' → Option (D × Nat)} (ho : OpP X (compareOp op) g) (ho' : OpP X (compareOp op') g') (ha : DP X a f1) (hb : DP X b f2) (hc : DP X c f3) (hB : ∀ x y d, g x y = some d → ∃ k, d = .bool k)
    (hm : lastMarks [op, op'] [b, c] = false := by with_unfolding_all rfl) : DT X E (.Compare a [op, op'] [b, c] pos) fun ρ => liftO ((f1 ρ).bind fun x => (f2 ρ).bind fun y => (f3 ρ).bind fun z => (chainD g g' x.1 y.1 z.1).bind isB) >>= fun k => .ok (k, ρ) := by
  obtain ⟨r, hr, h⟩ := ho
  obtain ⟨r', hr', h'⟩ := ho'
  obtain ⟨ta, pa, qa⟩ := ha
  obtain ⟨tb, pb, qb⟩ := hb
  obtain ⟨tc, pc, qc⟩ := hc
  refine ⟨_, pt_chain hr hr' pa pb pc hm, fun ρ F P σ H Q hl rr hh => ?_⟩
  cases e1 : f1 ρ with
  | none => rw [e1] at hh; exact hh.elim
  | some x =>
  cases e2 : f2 ρ with
  | none => rw [e1, e2] at hh; exact hh.elim
  | some y =>
  cases e3 : f3 ρ with
  | none => rw [e1, e2, e3] at hh; exact hh.elim
  | some z =>
  rw [e1, e2, e3] at hh
  simp only [Option.bind_some] at hh
  cases e4 : chainD g g' x.1 y.1 z.1 with
  | none => rw [e4] at hh; exact hh.elim
  | some d =>
  rw [e4] at hh
  cases d <;> try exact hh.elim
  rename_i k
  refine chain_core (c := c) (d := .bool k) (n := 0) h h' qa qb qc hB hl rr (by rw [e1, e2, e3]; simp only [Option.bind_some, e4]; rfl) fun v A o => ?_
  rw [(show v = .bl k by obtain ⟨_, q⟩ := own_still o rfl; cases q; rfl)]
  exact ⟨k, rfl, hh H F Step.refl rr⟩
theorem ii_bool {C : Int → Int → Bool} {k : Int → Int → Bool} : ∀ x y d, iiD C (fun i j => .bool (k i j)) x y = some d → ∃ b, d = .bool b := by
  intro x y d h
  cases x <;> try (simp only [iiD] at h; cases h)
  cases y <;> try (simp only [iiD] at h; cases h)
  rename_i i j
  simp only [iiD] at h
  by_cases z : C i j = true
  · rw [if_pos z] at h; cases h; exact ⟨_, rfl⟩
  · rw [if_neg z] at h; cases h
end
end DL

namespace DL
open PySem PySem.Spec PyProof.Rows L2

/-! ### several values, each one's own -/
inductive OwnL (K : PySem.W.Frag) (F : AS) (H : Hp) : List (D × Nat) → List V → List Addr → Prop
  | nil : OwnL K F H [] [] []
  | cons {d : D × Nat} {v : V} {A B : List Addr} {ds : List (D × Nat)} {vs : List V} : Own K F H d.2 d.1 v A → OwnL K F H ds vs B → OwnL K F H (d :: ds) (v :: vs) (A ++ B)
structure DAO (X : Cx) (E : Exs) (es : List Expr) (f : Env' → Res (List (D × Nat) × Env')) : Prop where
  ex : ∃ t, PA X es t ∧ ∀ (ρ : Env') (F P : AS) (σ : L2.St) (H : Hp) (Q : List V → Hp → Prop), ρ.length = X.N.length → Rel X.K F P ρ σ H →
    Post X E F P σ H (f ρ) (fun r => ∀ vs H' F' A, Step F P H F' H' → RelX X.K F' P r.2 σ H' A → OwnL X.K F' H' r.1 vs A → Q vs H') → t σ H Q
section
variable {X : Cx} {E : Exs} {a b e : Expr} {pos : Pos} {es : List Expr}
theorem dao_nil : DAO X E [] fun ρ => .ok ([], ρ) := ⟨_, pa_nil, fun ρ F P σ H Q hl r h => h [] H F [] Step.refl r .nil⟩
theorem dao_cons {f : Env' → Res (D × Nat × Env')} {g : Env' → Res (List (D × Nat) × Env')} (ha : DE X E a f) (hb : DAO X E es g) (hs : starEach (a :: es) X.env = (false, eval a X.env) :: starEach es X.env := by rfl) :
    DAO X E (a :: es) fun ρ => f ρ >>= fun x => g x.2.2 >>= fun y => .ok ((x.1, x.2.1) :: y.1, y.2) := by
  obtain ⟨ta, pa, qa⟩ := ha
  obtain ⟨tb, pb, qb⟩ := hb
  refine ⟨_, pa_cons pa pb hs, fun ρ F P σ H Q hl r h => ?_⟩
  refine qa ρ F P σ H _ hl r (h.bind.same fun x hx v H1 F1 A st1 r1 o1 => ?_)
  have hA : ∀ a ∈ A, ¬ F1 a ∧ ¬ P a := fun a ha => r1.2.2.2.elim fun w q => (q.2.2 a ha).2
  refine qb x.2.2 F1 (fun a => P a ∨ a ∈ A) σ H1 _ (rel_len r hl r1) (r1.hold o1.there) ?_
  refine (hx.bind.imp st1 (fun a z => .inl z) fun y hy vs H2 F2 B st2 r2 l => ?_)
  have o2 := o1.mono st2.grow fun a ha => st2.prot a (.inr ha)
  have hA2 : ∀ a ∈ A, ¬ F2 a ∧ ¬ P a := fun a ha => ⟨fun z => (st2.fresh a z).elim (hA a ha).1 fun w => w (.inr ha), (hA a ha).2⟩
  exact hy (v :: vs) H2 F2 (A ++ B) (st1.trans (st2.less fun _ z => .inl z)) (r2.unhold r1.2.2.1 hA2) (.cons o2 l)
/-- a list of owned lists -/
theorem own_all1 {K : PySem.W.Frag} {F : AS} {H : Hp} : ∀ {ds : List (D × Nat)} {vs : List V} {A : List Addr}, OwnL K F H ds vs A → (ds.all fun d => decide (d.2 = 1) || still d.1) = true → AllOwn (Own K F H 1) (ds.map (·.1)) vs A
  | _, _, _, .nil, _ => .nil
  | _, _, _, .cons (d := d) o t, h => by
    simp only [List.all_cons, Bool.and_eq_true, Bool.or_eq_true, decide_eq_true_eq] at h
    refine AllOwn.cons ?_ (own_all1 t h.2)
    rcases h.1 with h1 | h1
    · rw [h1] at o; exact o
    · obtain ⟨e, rp⟩ := own_still o h1
      subst e
      exact Own.of_rep rp (.inr h1)
theorem de_listO {f : Env' → Res (List (D × Nat) × Env')} (h : DAO X E es f) : DE X E (.List es pos) fun ρ => f ρ >>= fun r => if r.1.length ≤ line ∧ (r.1.all fun d => decide (d.2 = 1) || still d.1) = true then .ok (.list (r.1.map (·.1)), 2, r.2) else .stuck := by
  obtain ⟨t, pa, qa⟩ := h
  refine ⟨_, pe_lst pa, fun ρ F P σ H Q hl rr hh => qa ρ F P σ H _ hl rr (hh.bind.same fun r hr vs H1 F1 A st r1 l => ?_)⟩
  by_cases z : r.1.length ≤ line ∧ (r.1.all fun d => decide (d.2 = 1) || still d.1) = true
  · rw [if_pos z] at hr
    have al := own_all1 l z.2
    refine ⟨by rw [al.length, List.length_map, line_eq]; exact z.1, fun p hp => ?_⟩
    have hd : ∀ a, F1 a → H1 a ≠ none := fun a f => r1.dom a (.inl f)
    have th : ∀ a ∈ A, H1 a ≠ none := AllOwn.there (fun o => o.there) al
    have ne : ∀ a, H1 a ≠ none → a ≠ p := fun a h z => h (by rw [z]; exact hp)
    have hA : ∀ a ∈ A, ¬ F1 a ∧ ¬ P a := fun a ha => r1.2.2.2.elim fun w q => (q.2.2 a ha).2
    have ef : Eff F1 H1 A F1 (upd H1 p (.lst vs)) (p :: A) := ⟨fun a o q _ => same_new hp _ a o q, fun _ f => f, fun _ f => .inl f, fun a ha => ?_, ?_, fun a f => (by rw [upd_ne (ne a (hd a f))]; exact hd a f), fun a vs q => same_new hp _ a _ q⟩
    · refine hr _ _ F1 (p :: A) (st.trans (ef.step r1)) (ef.rel r1) (.inr (.inl ⟨_, p, vs, A, rfl, rfl, upd_same, rfl, al.imp fun d v C hC o => o.mono (grow_new hp _ hd) fun a ha => upd_ne (ne a (th a (hC a ha)))⟩))
    · rcases List.mem_cons.mp ha with rfl | ha
      · exact ⟨.inl hp, fun z => hd _ z hp⟩
      · exact ⟨.inr ha, (hA a ha).1⟩
    · exact List.nodup_cons.mpr ⟨fun z => th p z hp, r1.2.2.1⟩
  · rw [if_neg z] at hr; exact hr.elim

/-! ### targets -/
def gNameD (i : Nat) : D → Nat → Env' → Res Env' := fun d n ρ => .ok (ρ.set i (some (d, n)))
theorem dg_name (i : Nat) {x : Str} {pos : Pos} (hN : X.N.Nodup) (hi : X.N[i]? = some x := by rfl) (hx : Loc X.env.scope x := by first | exact Or.inl rfl | exact Or.inr rfl) (hf : X.fn x = true ∨ X.env.scope.names.lookup x = some .local := by first | exact .inl rfl | exact .inr rfl | assumption) : DG X (.Name x pos) [i] (gNameD i) := by
  refine ⟨_, pg_name hN hi hx hf, fun ρ ρ' F P σ H v d n A Q hl r o e q => ?_⟩
  cases e
  have hlt : i < ρ.length := by rw [hl]; exact (List.getElem?_eq_some_iff.mp hi).1
  refine q _ F H ⟨List.length_set .., fun j hj => ?_⟩ Step.refl (RelX.put (B := []) (by rw [List.append_nil]; exact r) hlt o)
  rw [List.getElem?_set_ne (by simpa using fun z => hj (by simp [z]))]
structure DGs (X : Cx) (ts : List Expr) (vs : List Nat) (g : List D → Env' → Res Env') : Prop where
  ex : ∃ t, PGs X ts t ∧ ∀ (ρ ρ' : Env') (F P : AS) (σ : L2.St) (H : Hp) (us : List V) (ds : List D) (Q : L2.St → Hp → Prop), ρ.length = X.N.length → Rel X.K F P ρ σ H → RepL X.K F H ds us →
    g ds ρ = .ok ρ' → (∀ σ' F' H', (σ'.length = σ.length ∧ ∀ j, j ∉ vs → σ'[j]? = σ[j]?) → Step F P H F' H' → Rel X.K F' P ρ' σ' H' → Q σ' H') → t us σ H Q
def gNilD : List D → Env' → Res Env' := fun ds ρ => match ds with
  | [] => .ok ρ
  | _ => .stuck
theorem dgs_nil : DGs X [] [] gNilD := by
  refine ⟨_, pgs_nil, fun ρ ρ' F P σ H us ds Q hl r l e q => ?_⟩
  cases l with
  | nil => cases e; exact ⟨rfl, q σ F H ⟨rfl, fun _ _ => rfl⟩ Step.refl r⟩
  | cons _ _ => cases e
def gConsD (g : D → Nat → Env' → Res Env') (g' : List D → Env' → Res Env') : List D → Env' → Res Env' := fun ds ρ => match ds with
  | d :: r => g d 0 ρ >>= fun ρ1 => g' r ρ1
  | [] => .stuck
theorem dgs_cons {t : Expr} {ts : List Expr} {vs us : List Nat} {g : D → Nat → Env' → Res Env'} {g' : List D → Env' → Res Env'} (h1 : DG X t vs g) (h2 : DGs X ts us g') (hs : (assignEach (t :: ts) X.env).map (·.2) = assign t X.env :: (assignEach ts X.env).map (·.2) := by rfl) : DGs X (t :: ts) (vs ++ us) (gConsD g g') := by
  obtain ⟨t1, p1, q1⟩ := h1
  obtain ⟨t2, p2, q2⟩ := h2
  refine ⟨_, pgs_cons p1 p2 hs, fun ρ ρ' F P σ H us' ds Q hl r l e q => ?_⟩
  cases l with
  | nil => cases e
  | @cons d v ds vs' h t =>
    simp only [gConsD] at e
    cases e1 : g d 0 ρ with
    | ok ρ1 =>
      rw [e1] at e
      refine ⟨v, vs', rfl, q1 ρ ρ1 F P σ H v d 0 [] _ hl r ⟨rfl, h⟩ e1 fun σ1 F1 H1 hσ st r1 => ?_⟩
      refine q2 ρ1 ρ' F1 P σ1 H1 vs' ds _ (by rw [r1.1, hσ.1, ← r.1, hl]) r1 (t.mono st.grow) e fun σ2 F2 H2 hσ2 st2 r2 => ?_
      exact q σ2 F2 H2 ⟨hσ2.1.trans hσ.1, fun j hj => (hσ2.2 j fun z => hj (List.mem_append_right _ z)).trans (hσ.2 j fun z => hj (List.mem_append_left _ z))⟩ (st.trans st2) r2
    | exc x y => rw [e1] at e; cases e
    | stuck => rw [e1] at e; cases e
def gTupD (g : List D → Env' → Res Env') : D → Nat → Env' → Res Env' := fun d _ ρ => match d with
  | .tuple ds => g ds ρ
  | _ => .stuck
theorem dg_tup {ts : List Expr} {k : Nat} {vs : List Nat} {g : List D → Env' → Res Env'} {n : Nat} (hc : X.calm = true) (h : DGs X ts vs g) (hg : ∀ ds ρ ρ', g ds ρ = .ok ρ' → ds.length = n) (hn : (assignEach ts X.env).length = n := by rfl) (hst : (assignEach ts X.env).findIdx? (·.1) = none := by rfl) :
    DG X (.Tuple ts k pos) vs (gTupD g) := by
  obtain ⟨t, p, q⟩ := h
  refine ⟨_, pg_tup hc p hn hst, fun ρ ρ' F P σ H v d m A Q hl r o e w => ?_⟩
  cases d <;> try (cases e; done)
  rename_i ds
  simp only [gTupD] at e
  obtain ⟨a, us, rfl, sq, l⟩ := own_tuple o
  exact ⟨a, us, rfl, sq, by rw [l.length]; exact hg ds ρ ρ' e, q ρ ρ' F P σ H us ds Q hl r.drop l e w⟩
theorem gCons_len {g : D → Nat → Env' → Res Env'} {g' : List D → Env' → Res Env'} {n : Nat} (h : ∀ ds ρ ρ', g' ds ρ = .ok ρ' → ds.length = n) : ∀ ds ρ ρ', gConsD g g' ds ρ = .ok ρ' → ds.length = n + 1 := by
  intro ds ρ ρ' e
  cases ds with
  | nil => cases e
  | cons d r =>
    simp only [gConsD] at e
    cases e1 : g d 0 ρ with
    | ok ρ1 => rw [e1] at e; rw [List.length_cons, h r ρ1 ρ' e]
    | exc x y => rw [e1] at e; cases e
    | stuck => rw [e1] at e; cases e
theorem gNil_len : ∀ ds ρ ρ', gNilD ds ρ = .ok ρ' → ds.length = 0 := by
  intro ds ρ ρ' e
  cases ds with
  | nil => rfl
  | cons _ _ => cases e

/-! ### statements -/
variable {s : Stmt} {ss : List Stmt} {W : Nat → Bool}
def seqF (f g : Env' → Res (Fl × Env')) : Env' → Res (Fl × Env') := fun ρ => f ρ >>= fun x => match x.1 with
  | .nx => g x.2
  | fl => .ok (fl, x.2)
theorem dss_nil : DSs X E W [] fun ρ => .ok (.nx, ρ) := ⟨_, pss_nil, fun ρ F P σ H Dn hl r h => h σ H F SK.refl Step.refl r hl⟩
theorem dss_one {f : Env' → Res (Fl × Env')} (h : DS X E W s f) : DSs X E W [s] f := by
  obtain ⟨t, p, q⟩ := h
  exact ⟨_, pss_one p, q⟩
theorem dss_cons {f g : Env' → Res (Fl × Env')} (h : DS X E W s f) (h' : DSs X E W ss g) : DSs X E W (s :: ss) (seqF f g) := by
  obtain ⟨t, p, q⟩ := h
  obtain ⟨t', p', q'⟩ := h'
  refine ⟨_, pss_cons p p', fun ρ F P σ H Dn hl r h => q ρ F P σ H _ hl r ?_⟩
  unfold seqF at h
  cases hf : f ρ with
  | stuck => rw [hf] at h; exact h.elim
  | exc x y => rw [hf] at h; exact h
  | ok x =>
    obtain ⟨fl, ρ1⟩ := x
    rw [hf] at h
    cases fl with
    | nx => exact fun σ' H' F' k st r1 l1 => q' ρ1 F' P σ' H' Dn l1 r1 (PostS.imp h st k)
    | bk => exact h
    | ct => exact h
    | rt d n => exact h
theorem ds_pass : DS X E W (.Pass pos) fun ρ => .ok (.nx, ρ) := ⟨_, ps_pass, fun ρ F P σ H Dn hl r h => h σ H F SK.refl Step.refl r hl⟩
theorem ds_break : DS X E W (.Break pos) fun ρ => .ok (.bk, ρ) := ⟨_, ps_break, fun ρ F P σ H Dn hl r h => h σ H F SK.refl Step.refl r hl⟩
theorem ds_continue : DS X E W (.Continue pos) fun ρ => .ok (.ct, ρ) := ⟨_, ps_continue, fun ρ F P σ H Dn hl r h => h σ H F SK.refl Step.refl r hl⟩
/-- what the proof never comes to -/
theorem ds_never : DS X E W s fun _ => .stuck := ⟨_, ps_never, fun ρ F P σ H Dn hl r h => h.elim⟩
theorem ds_expr {f : Env' → Res (D × Nat × Env')} (h : DE X E e f) (hs : swapsWith e none pos.line X.env = pure false := by rfl) : DS X E W (.Expr e pos) fun ρ => f ρ >>= fun x => .ok (.nx, x.2.2) := by
  obtain ⟨t, p, q⟩ := h
  exact ⟨_, ps_expr p hs, fun ρ F P σ H Dn hl r h => q ρ F P σ H _ hl r (h.of.same fun x hx v H1 F1 A st r1 o => hx σ H1 F1 SK.refl st r1.drop (rel_len r hl r1))⟩
theorem ds_ret {f : Env' → Res (D × Nat × Env')} (h : DE X E e f) : DS X E W (.Return (some e) pos) fun ρ => f ρ >>= fun x => .ok (.rt x.1 x.2.1, x.2.2) := by
  obtain ⟨t, p, q⟩ := h
  exact ⟨_, ps_ret p, fun ρ F P σ H Dn hl r h => q ρ F P σ H _ hl r (h.of.same fun x hx v H1 F1 A st r1 o => hx σ v H1 F1 A SK.refl st r1 o)⟩
theorem ds_retN : DS X E W (.Return none pos) fun ρ => .ok (.rt .none 0, ρ) :=
  ⟨_, ps_retN, fun ρ F P σ H Dn hl r h => h σ _ H F [] SK.refl Step.refl r ⟨rfl, .non⟩⟩
def ifS (c : Env' → Res (Bool × Env')) (f g : Env' → Res (Fl × Env')) : Env' → Res (Fl × Env') := fun ρ => c ρ >>= fun x => if x.1 = true then f x.2 else g x.2
theorem ds_if {c : Expr} {p q : List Stmt} {fc : Env' → Res (Bool × Env')} {f g : Env' → Res (Fl × Env')} (hc : DT X E c fc) (hp : DSs X E W p f) (hq : DSs X E W q g) : DS X E W (.If c p q pos) (ifS fc f g) := by
  obtain ⟨tc, pc, qc⟩ := hc
  obtain ⟨t1, p1, q1⟩ := hp
  obtain ⟨t2, p2, q2⟩ := hq
  refine ⟨_, ps_if pc p1 p2, fun ρ F P σ H Dn hl r h => qc ρ F P σ H _ hl r (PostS.of h |>.same fun x hx H1 F1 st r1 => ?_)⟩
  by_cases z : x.1 = true
  · rw [if_pos z] at hx ⊢
    exact q1 x.2 F1 P σ H1 Dn (rel_len r hl r1) r1 (PostS.imp hx st SK.refl)
  · rw [if_neg z] at hx ⊢
    exact q2 x.2 F1 P σ H1 Dn (rel_len r hl r1) r1 (PostS.imp hx st SK.refl)
/-- target = value -/
def asgF (f : Env' → Res (D × Nat × Env')) (g : D → Nat → Env' → Res Env') : Env' → Res (Fl × Env') := fun ρ => f ρ >>= fun x => match g x.1 x.2.1 x.2.2 with
  | .ok ρ' => .ok (.nx, ρ')
  | _ => .stuck
theorem asg_end {tg : Expr} {vs : List Nat} (hW : ∀ i ∈ vs, W i = true) {f : Env' → Res (D × Nat × Env')} {g : D → Nat → Env' → Res Env'} {te : TE} {t : TG}
    (qe : ∀ (ρ : Env') (F P : AS) (σ : L2.St) (H : Hp) (Q : VK), ρ.length = X.N.length → Rel X.K F P ρ σ H →
      Post X E F P σ H (f ρ) (fun r => ∀ v H' F' A, Step F P H F' H' → RelX X.K F' P r.2.2 σ H' A → Own X.K F' H' r.2.1 r.1 v A → Q v H') → te σ H Q)
    (qg : ∀ (ρ ρ' : Env') (F P : AS) (σ : L2.St) (H : Hp) (v : V) (d : D) (n : Nat) (A : List Addr) (Q : L2.St → Hp → Prop), ρ.length = X.N.length → RelX X.K F P ρ σ H A → Own X.K F H n d v A →
      g d n ρ = .ok ρ' → (∀ σ' F' H', (σ'.length = σ.length ∧ ∀ j, j ∉ vs → σ'[j]? = σ[j]?) → Step F P H F' H' → Rel X.K F' P ρ' σ' H' → Q σ' H') → t v σ H Q)
    {ρ : Env'} {F P : AS} {σ : L2.St} {H : Hp} {Dn : Ends} (hl : ρ.length = X.N.length) (r : Rel X.K F P ρ σ H) (h : PostS X E W F P σ H Dn (asgF f g ρ)) : te σ H fun x H1 => t x σ H1 Dn.nx := by
  refine qe ρ F P σ H _ hl r (PostS.of h |>.same fun x hx v H1 F1 A st r1 o => ?_)
  have l1 := rel_len r hl r1
  cases e : g x.1 x.2.1 x.2.2 with
  | ok ρ' =>
    rw [e] at hx
    exact qg x.2.2 ρ' F1 P σ H1 v x.1 x.2.1 A _ l1 r1 o e fun σ' F' H' hσ st' r' => hx σ' H' F' (fun j hj => hσ.2 j fun z => by rw [hW j z] at hj; cases hj) (st.trans st') r' (by rw [r'.1, hσ.1, ← r.1, hl])
  | exc y z => rw [e] at hx; exact hx.elim
  | stuck => rw [e] at hx; exact hx.elim
theorem ds_asg {tg : Expr} {vs : List Nat} {f : Env' → Res (D × Nat × Env')} {g : D → Nat → Env' → Res Env'} (he : DE X E e f) (hg : DG X tg vs g) (hs : swapsWithSole [tg] e pos.line X.env = pure false := by rfl) (hw : swappedStores [tg] e X.env = pure none := by rfl)
    (h1 : (assignEach [tg] X.env).map (·.2) = [assign tg X.env] := by rfl) (hW : ∀ i ∈ vs, W i = true := by decide) : DS X E W (.Assign [tg] e pos) (asgF f g) := by
  obtain ⟨te, pe, qe⟩ := he
  obtain ⟨t, pg, qg⟩ := hg
  exact ⟨_, ps_asg pe pg hs hw h1, fun ρ F P σ H Dn hl r h => asg_end (tg := tg) hW qe qg hl r h⟩
/-- name = value -/
theorem ds_set (i : Nat) {x : Str} {p : Pos} {f : Env' → Res (D × Nat × Env')} (hN : X.N.Nodup) (he : DE X E e f) (hi : X.N[i]? = some x := by rfl) (hx : Loc X.env.scope x := by first | exact Or.inl rfl | exact Or.inr rfl) (hs : swapsWith e (some (.Name x p)) pos.line X.env = pure false := by rfl)
    (hf : X.fn x = true ∨ X.env.scope.names.lookup x = some .local := by first | exact .inl rfl | exact .inr rfl | assumption) (hW : ∀ j ∈ [i], W j = true := by decide) : DS X E W (.Assign [.Name x p] e pos) (asgF f (gNameD i)) := by
  obtain ⟨te, pe, qe⟩ := he
  obtain ⟨t, pg, qg⟩ := dg_name (X := X) i (x := x) (pos := p) hN hi hx hf
  refine ⟨_, ps_set hN hi hx pe hs hf, fun ρ F P σ H Dn hl r h => asg_end (tg := .Name x p) (t := gName i) (vs := [i]) hW qe ?_ hl r h⟩
  intro ρ ρ' F P σ H v d n A Q hl r o e q
  cases e
  have hlt : i < ρ.length := by rw [hl]; exact (List.getElem?_eq_some_iff.mp hi).1
  refine q _ F H ⟨List.length_set .., fun j hj => ?_⟩ Step.refl (RelX.put (B := []) (by rw [List.append_nil]; exact r) hlt o)
  rw [List.getElem?_set_ne (by simpa using fun z => hj (by simp [z]))]
/-- a, b = x, y -/
def parF (i j : Nat) (f : Env' → Res (List (D × Nat) × Env')) : Env' → Res (Fl × Env') := fun ρ => f ρ >>= fun r => match r.1 with
  | [x, y] => .ok (.nx, (r.2.set i (some x)).set j (some y))
  | _ => .stuck
theorem ds_par (i j : Nat) {x y : Str} {px py pt : Pos} {kt k2 pt2} {f : Env' → Res (List (D × Nat) × Env')} (hc : X.calm = true) (hN : X.N.Nodup) (ha : DAO X E [a, b] f) (hw : swappedStores [.Tuple [.Name x px, .Name y py] kt pt] (.Tuple [a, b] k2 pt2) X.env = pure (some [x, y])) (hi : X.N[i]? = some x := by rfl) (hj : X.N[j]? = some y := by rfl) (hij : i ≠ j := by decide)
    (hx : X.env.scope.names.lookup x = some .local := by rfl) (hy : X.env.scope.names.lookup y = some .local := by rfl)
    (hs : swapsWithSole [.Tuple [.Name x px, .Name y py] kt pt] (.Tuple [a, b] k2 pt2) pos.line X.env = pure false := by rfl) (hW : W i = true ∧ W j = true := by decide) :
    DS X E W (.Assign [.Tuple [.Name x px, .Name y py] kt pt] (.Tuple [a, b] k2 pt2) pos) (parF i j f) := by
  obtain ⟨t, pa, qa⟩ := ha
  refine ⟨_, ps_par hc hN hi hj hij hx hy pa hw hs, fun ρ F P σ H Dn hl r h => qa ρ F P σ H _ hl r (PostS.of h |>.same fun q hq vs H1 F1 A st r1 l => ?_)⟩
  have l1 : q.2.length = X.N.length := rel_len r hl r1
  have hil : i < q.2.length := by rw [l1]; exact (List.getElem?_eq_some_iff.mp hi).1
  have hjl : j < q.2.length := by rw [l1]; exact (List.getElem?_eq_some_iff.mp hj).1
  obtain ⟨ds, ρ1⟩ := q
  match ds, hq, l with
  | [x, y], hq, l =>
    cases l with
    | cons o1 l1' =>
      cases l1' with
      | cons o2 l2' =>
        cases l2'
        refine ⟨_, _, rfl, ?_⟩
        have ra := r1.put hil o1
        have rb := ra.put (by rw [List.length_set]; exact hjl) o2
        exact hq _ H1 F1 (fun k hk => by rw [List.getElem?_set_ne (fun z => by rw [← z, hW.2] at hk; cases hk), List.getElem?_set_ne (fun z => by rw [← z, hW.1] at hk; cases hk)]) st rb (by rw [List.length_set, List.length_set]; exact l1)
  | [], hq, l => exact hq.elim
  | [_], hq, l => exact hq.elim
  | _ :: _ :: _ :: _, hq, l => exact hq.elim
def par3F (i j k : Nat) (f : Env' → Res (List (D × Nat) × Env')) : Env' → Res (Fl × Env') := fun ρ => f ρ >>= fun r => match r.1 with
  | [x, y, z] => .ok (.nx, ((r.2.set i (some x)).set j (some y)).set k (some z))
  | _ => .stuck
/-- name op= value, ints -/
def augF (i : Nat) (k : Int → Int → Int) (f : Env' → Res (D × Nat × Env')) : Env' → Res (Fl × Env') := fun ρ => match getS ρ i with
  | some (.int x, _) => f ρ >>= fun y => match y.1 with
    | .int z => .ok (.nx, y.2.2.set i (some (.int (k x z), 0)))
    | _ => .stuck
  | _ => .stuck
theorem ds_aug (i : Nat) {x : Str} {p : Pos} {op : Operator} {k : Int → Int → Int} {f : Env' → Res (D × Nat × Env')} (hN : X.N.Nodup) (he : DE X E e f) (ho : PIp X op (ipI k)) (hi : X.N[i]? = some x := by rfl) (hx : Loc X.env.scope x := by first | exact Or.inl rfl | exact Or.inr rfl)
    (hf : X.fn x = true ∨ X.env.scope.names.lookup x = some .local := by first | exact .inl rfl | exact .inr rfl | assumption) (hW : W i = true := by decide) : DS X E W (.AugAssign (.Name x p) op e pos) (augF i k f) := by
  obtain ⟨te, pe, qe⟩ := he
  refine ⟨_, ps_aug hN hi hx pe ho hf, fun ρ F P σ H Dn hl r h => ?_⟩
  unfold augF getS at h
  split at h
  · rename_i x0 n0 hg
    split at hg
    · rename_i z hz
      cases hg
      obtain ⟨v, B, e1, o, _⟩ := r.slot hz
      rw [own_int o] at e1
      refine ⟨_, e1, qe ρ F P σ H _ hl r (PostS.of h |>.same fun y hy u H1 F1 A st r1 o1 => ?_)⟩
      have l1 := rel_len r hl r1
      obtain ⟨dy, ny, ρ1⟩ := y
      cases dy <;> try exact hy.elim
      rename_i z'
      simp only at hy o1 r1
      have eA := (own_still o1 rfl).1
      subst eA
      refine ⟨_, _, rfl, own_int o1, ?_⟩
      exact hy _ H1 F1 (fun k hk => by rw [List.getElem?_set_ne (fun z => by rw [← z, hW] at hk; cases hk)]) st (RelX.put (A := []) (B := []) (n := 0) r1 (by rw [l1]; exact (List.getElem?_eq_some_iff.mp hi).1) ⟨rfl, .int _⟩) (by rw [List.length_set]; exact l1)
    · cases hg
  · exact h.elim

/-! ### loops -/
/-- how many turns a while is let -/
def whileF (c : Env' → Res (Bool × Env')) (b : Env' → Res (Fl × Env')) : Nat → Env' → Res (Fl × Env')
  | 0, _ => .stuck
  | n + 1, ρ => c ρ >>= fun x => if x.1 = true then b x.2 >>= fun y => match y.1 with
      | .nx => whileF c b n y.2
      | .ct => whileF c b n y.2
      | .bk => .ok (.nx, y.2)
      | .rt d m => .ok (.rt d m, y.2)
    else .ok (.nx, x.2)
theorem ds_while (fuel : Nat) {c : Expr} {body : List Stmt} {fc : Env' → Res (Bool × Env')} {f : Env' → Res (Fl × Env')} (hp : PassesOwn (model X.prog X.w) X.A X.env X.xe) (hc : DT X E c fc) (hb : DSs X E W body f) : DS X E W (.While c body [] pos) (whileF fc f fuel) := by
  obtain ⟨tc, pc, qc⟩ := hc
  obtain ⟨tb, pb, qb⟩ := hb
  refine ⟨_, ps_while hp pc pb, fun ρ F P σ H Dn hl r h => ?_⟩
  refine ⟨fun m σ' H' => ∃ ρ' F', ρ'.length = X.N.length ∧ Step F P H F' H' ∧ Rel X.K F' P ρ' σ' H' ∧ PostS X E W F' P σ' H' Dn (whileF fc f m ρ'), ⟨fuel, ρ, F, hl, Step.refl, r, h⟩, ?_⟩
  rintro m σ1 H1 ⟨ρ1, F1, l1, st1, r1, h1⟩
  cases m with
  | zero => exact h1.elim
  | succ m =>
    simp only [whileF] at h1
    refine qc ρ1 F1 P σ1 H1 _ l1 r1 (PostS.of h1 |>.same fun x hx H2 F2 st2 r2 => ?_)
    have l2 := rel_len r1 l1 r2
    by_cases z : x.1 = true
    · rw [if_pos z] at hx ⊢
      refine ⟨fun σ' H' => ∃ ρ' F', ρ'.length = X.N.length ∧ Step F P H F' H' ∧ Rel X.K F' P ρ' σ' H' ∧ PostS X E W F' P σ' H' Dn (whileF fc f m ρ'), fun σ' H' q => ⟨m, Nat.lt_succ_self m, q⟩, qb x.2 F2 P σ1 H2 _ l2 r2 ?_⟩
      have hx := PostS.imp hx st2 SK.refl
      cases hf : f x.2 with
      | stuck => rw [hf] at hx; exact hx.elim
      | exc y z => rw [hf] at hx; exact hx
      | ok y =>
        obtain ⟨fl, ρ3⟩ := y
        rw [hf] at hx
        cases fl with
        | nx => exact fun σ' H' F' k st r' l' => ⟨ρ3, F', l', (st1.trans st2).trans st, r', PostS.imp hx st k⟩
        | ct => exact fun σ' H' F' k st r' l' => ⟨ρ3, F', l', (st1.trans st2).trans st, r', PostS.imp hx st k⟩
        | bk => exact hx
        | rt d n => exact hx
    · rw [if_neg z] at hx ⊢
      exact hx σ1 H2 F2 SK.refl st2 r2 l2

/-- what an iterator draws -/
def ItRep (K : PySem.W.Frag) (F : AS) (J : It) (ds : List D) (H : Hp) : Prop := ∀ (i : Nat) (H1 : Hp) (F1 : AS), Grow F H F1 H1 → (∀ a, F1 a → H1 a ≠ none) →
  (∀ d, ds[i]? = some d → J.go i H1 ∧ ∀ x H2, J.yld i H1 x H2 → ∃ F2, Alloc F1 H1 F2 H2 [] ∧ Rep K F2 H2 d x) ∧ (ds.length ≤ i → J.stop i H1)
structure DI (X : Cx) (E : Exs) (tg iter : Expr) (f : Env' → Res (List D × Env')) : Prop where
  ex : ∃ wi, PI X tg iter wi ∧ ∀ (ρ : Env') (F P : AS) (σ : L2.St) (H : Hp) (R : It → Hp → Prop), ρ.length = X.N.length → Rel X.K F P ρ σ H →
    Post X E F P σ H (f ρ) (fun r => ∀ J H' F', Step F P H F' H' → Rel X.K F' P r.2 σ H' → ItRep X.K F' J r.1 H' → R J H') → wi σ H R
def forF (g : D → Nat → Env' → Res Env') (b : Env' → Res (Fl × Env')) : List D → Env' → Res (Fl × Env')
  | [], ρ => .ok (.nx, ρ)
  | d :: ds, ρ => match g d 0 ρ with
    | .ok ρ1 => b ρ1 >>= fun y => match y.1 with
      | .nx => forF g b ds y.2
      | .ct => forF g b ds y.2
      | .bk => .ok (.nx, y.2)
      | .rt e m => .ok (.rt e m, y.2)
    | _ => .stuck
theorem ds_for {tg iter : Expr} {body : List Stmt} {vs : List Nat} {fi : Env' → Res (List D × Env')} {g : D → Nat → Env' → Res Env'} {f : Env' → Res (Fl × Env')} (hp : PassesOwn (model X.prog X.w) X.A X.env X.xe) (hc : X.calm = true) (hi : DI X E tg iter fi) (hg : DG X tg vs g) (hb : DSs X E W body f)
    (hs : ∀ x, foldedSetIterable iter X.env x = pure x := by intro _; rfl) (hW : ∀ i ∈ vs, W i = true := by decide) : DS X E W (.For tg iter body [] pos) fun ρ => fi ρ >>= fun r => forF g f r.1 r.2 := by
  obtain ⟨wi, pi, qi⟩ := hi
  obtain ⟨tg', pg, qg⟩ := hg
  obtain ⟨tb, pb, qb⟩ := hb
  refine ⟨_, ps_for hp hc pi pg pb hs, fun ρ F P σ H Dn hl r h => qi ρ F P σ H _ hl r (PostS.of h |>.same fun q hq J H0 F0 st0 r0 it => ?_)⟩
  have l0 : q.2.length = X.N.length := rel_len r hl r0
  have hq := PostS.imp hq st0 SK.refl
  refine ⟨fun i m σ1 H1 => m = q.1.length - i ∧ ∃ ρ1 F1, ρ1.length = X.N.length ∧ Step F0 P H0 F1 H1 ∧ Rel X.K F1 P ρ1 σ1 H1 ∧ PostS X E W F1 P σ1 H1 Dn (forF g f (q.1.drop i) ρ1), ⟨q.1.length, rfl, q.2, F0, l0, Step.refl, r0, hq⟩, ?_⟩
  rintro i m σ1 H1 ⟨em, ρ1, F1, l1, st1, r1, h1⟩
  obtain ⟨it1, it2⟩ := it i H1 F1 st1.grow fun a z => r1.dom a (.inl z)
  by_cases hlt : i < q.1.length
  · have ed : q.1[i]? = some q.1[i] := List.getElem?_eq_getElem hlt
    obtain ⟨go, yl⟩ := it1 _ ed
    rw [List.drop_eq_getElem_cons hlt] at h1
    simp only [forF] at h1
    refine .inr ⟨go, fun σ' H' => ∃ ρ' F', ρ'.length = X.N.length ∧ Step F0 P H0 F' H' ∧ Rel X.K F' P ρ' σ' H' ∧ PostS X E W F' P σ' H' Dn (forF g f (q.1.drop (i + 1)) ρ'), fun σ' H' z => ⟨q.1.length - (i + 1), by omega, rfl, z⟩, fun x H2 hy => ?_⟩
    obtain ⟨F2, al, rp⟩ := yl x H2 hy
    have r2 := al.rel r1
    have st2 := al.step r1
    cases eg : g q.1[i] 0 ρ1 with
    | exc y z => rw [eg] at h1; exact h1.elim
    | stuck => rw [eg] at h1; exact h1.elim
    | ok ρ2 =>
      rw [eg] at h1
      dsimp only at h1
      refine qg ρ1 ρ2 F2 P σ1 H2 x _ 0 [] _ l1 r2 ⟨rfl, rp⟩ eg fun σ3 F3 H3 hσ st3 r3 => ?_
      have l3 : ρ2.length = X.N.length := by rw [r3.1, hσ.1, ← r1.1, l1]
      refine qb ρ2 F3 P σ3 H3 _ l3 r3 ?_
      have h1 : PostS X E W F3 P σ3 H3 Dn _ := PostS.imp h1 (st2.trans st3) fun j hj => hσ.2 j fun z => by rw [hW j z] at hj; cases hj
      have sta := (st1.trans st2).trans st3
      cases hf : f ρ2 with
      | stuck => rw [hf] at h1; exact h1.elim
      | exc y z => rw [hf] at h1; exact h1
      | ok y =>
        obtain ⟨fl, ρ4⟩ := y
        rw [hf] at h1
        cases fl with
        | nx => exact fun σ' H' F' k st r' l' => ⟨ρ4, F', l', sta.trans st, r', PostS.imp h1 st k⟩
        | ct => exact fun σ' H' F' k st r' l' => ⟨ρ4, F', l', sta.trans st, r', PostS.imp h1 st k⟩
        | bk => exact h1
        | rt d n => exact h1
  · refine .inl ⟨it2 (by omega), ?_⟩
    rw [List.drop_eq_nil_of_le (by omega)] at h1
    exact h1 σ1 H1 F1 SK.refl Step.refl r1 l1
end
end DL

namespace DL
open PySem PySem.Spec PyProof.Rows L2

section
variable {K : PySem.W.Frag} {F : AS} {H : Hp}
theorem SqT.grow {F' : AS} {H' : Hp} {a : Addr} {vs : List V} (g : Grow F H F' H') (h : H a = some (.tup vs) ∨ KTup K a vs) : SqT K H' a vs := by
  rcases h with r | k
  · exact .inl (.inl (g.tups _ _ r))
  · exact .inr k
theorem rep_tuple' {ds : List D} {v : V} (r : Rep K F H (.tuple ds) v) : ∃ a vs, v = .ref a ∧ (H a = some (.tup vs) ∨ KTup K a vs) ∧ RepL K F H ds vs := by
  cases r with
  | tup r l => exact ⟨_, _, rfl, .inl r, l⟩
  | ktup k l => exact ⟨_, _, rfl, .inr k, l⟩
theorem get_some {ds : List D} {vs : List V} {i : Nat} {d : D} (l : RepL K F H ds vs) (e : ds[i]? = some d) : ∃ v, vs[i]? = some v ∧ Rep K F H d v := l.get e
theorem lst_grow {F' : AS} {H' : Hp} {a : Addr} {vs : List V} (g : Grow F H F' H') (h : (F a ∧ Rd H a (.lst vs)) ∨ KLst K a vs) : SqL K H' a vs := h.imp (fun q => rd_eq (g.at_ a q.1).2 q.2) id
theorem it_list {a : Addr} {vs : List V} {ds : List D} (r : (F a ∧ Rd H a (.lst vs)) ∨ KLst K a vs) (l : RepL K F H ds vs) : ItRep K F (Itl K a) ds H := by
  intro i H1 F1 g hd
  have sq : SqL K H1 a vs := lst_grow g r
  refine ⟨fun d e => ?_, fun h => ⟨vs, sq, by rw [l.length]; exact h⟩⟩
  obtain ⟨v, hv, rp⟩ := l.get e
  refine ⟨⟨vs, v, sq, hv⟩, fun x H2 y => ?_⟩
  obtain ⟨rfl, y⟩ := y
  have := y vs sq
  rw [hv] at this
  cases this
  exact ⟨F1, Alloc.refl hd, rp.mono g⟩
theorem it_tup {a : Addr} {vs : List V} {ds : List D} (r : H a = some (.tup vs) ∨ KTup K a vs) (l : RepL K F H ds vs) : ItRep K F (Itt K a) ds H := by
  intro i H1 F1 g hd
  have sq : SqT K H1 a vs := SqT.grow g r
  refine ⟨fun d e => ?_, fun h => ⟨vs, sq, by rw [l.length]; exact h⟩⟩
  obtain ⟨v, hv, rp⟩ := l.get e
  refine ⟨⟨vs, v, sq, hv⟩, fun x H2 y => ?_⟩
  obtain ⟨rfl, y⟩ := y
  have := y vs sq
  rw [hv] at this
  cases this
  exact ⟨F1, Alloc.refl hd, rp.mono g⟩
def rngN (lo : Int) (n : Nat) : List D := (List.range n).map fun i => .int (lo + (i : Nat))
theorem it_range {lo : Int} {n : Nat} : ItRep K F (Itr lo n) (rngN lo n) H := by
  intro i H1 F1 g hd
  have hl : (rngN lo n).length = n := by simp [rngN]
  refine ⟨fun d e => ?_, fun h => by rw [hl] at h; exact h⟩
  have hi : i < n := by rw [← hl]; exact (List.getElem?_eq_some_iff.mp e).1
  refine ⟨hi, fun x H2 y => ?_⟩
  obtain ⟨rfl, rfl⟩ := y
  have ed : d = .int (lo + (i : Nat)) := by
    simp only [rngN, List.getElem?_map, List.getElem?_range hi, Option.map_some, Option.some.injEq] at e
    exact e.symm
  subst ed
  exact ⟨F1, Alloc.refl hd, .int _⟩
/-- a new pair -/
theorem pair_new {H1 : Hp} {F1 : AS} {T : Addr} {x y : V} {dx dy : D} (hT : H1 T = none) (hd : ∀ a, F1 a → H1 a ≠ none) (rx : Rep K F1 H1 dx x) (ry : Rep K F1 H1 dy y) :
    ∃ F2, Alloc F1 H1 F2 (upd H1 T (.tup [x, y])) [] ∧ Rep K F2 (upd H1 T (.tup [x, y])) (.tuple [dx, dy]) (.ref T) := by
  obtain ⟨al, rp⟩ := alloc_tuple (K := K) hT hd (.cons rx (.cons ry .nil))
  exact ⟨_, al, rp⟩
def enumD (ds : List D) : List D := ds.zipIdx.map fun p => .tuple [.int (p.2 : Nat), p.1]
theorem enumD_get {ds : List D} {i : Nat} {d : D} (e : (enumD ds)[i]? = some d) : ∃ d', ds[i]? = some d' ∧ d = .tuple [.int (i : Nat), d'] := by
  simp only [enumD, List.getElem?_map, List.getElem?_zipIdx, Nat.zero_add, Option.map_map] at e
  cases h : ds[i]? with
  | none => rw [h] at e; cases e
  | some d' => rw [h] at e; cases e; exact ⟨d', rfl, rfl⟩
theorem it_enum {a : Addr} {vs : List V} {ds : List D} (r : (F a ∧ Rd H a (.lst vs)) ∨ KLst K a vs) (l : RepL K F H ds vs) : ItRep K F (Ite K a) (enumD ds) H := by
  intro i H1 F1 g hd
  have sq : SqL K H1 a vs := lst_grow g r
  refine ⟨fun d e => ?_, fun h => ⟨vs, sq, by rw [l.length]; simpa [enumD] using h⟩⟩
  obtain ⟨d', e', rfl⟩ := enumD_get e
  obtain ⟨v, hv, rp⟩ := l.get e'
  refine ⟨⟨vs, v, sq, hv⟩, fun x H2 y => ?_⟩
  obtain ⟨T, x', rfl, hT, rfl, y⟩ := y
  have := y vs sq
  rw [hv] at this
  cases this
  exact pair_new hT hd (.int _) (rp.mono g)
def zipD (ds es : List D) : List D := (ds.zip es).map fun p => .tuple [p.1, p.2]
theorem zipD_get {ds es : List D} {i : Nat} {d : D} (e : (zipD ds es)[i]? = some d) : ∃ x y, ds[i]? = some x ∧ es[i]? = some y ∧ d = .tuple [x, y] := by
  simp only [zipD, List.getElem?_map] at e
  cases h : (ds.zip es)[i]? with
  | none => rw [h] at e; cases e
  | some p =>
    rw [h] at e
    cases e
    obtain ⟨h1, h2⟩ := List.getElem?_zip_eq_some.mp h
    exact ⟨p.1, p.2, h1, h2, rfl⟩
theorem it_zip {a b : Addr} {vs us : List V} {ds es : List D} (ra : (F a ∧ Rd H a (.lst vs)) ∨ KLst K a vs) (rb : (F b ∧ Rd H b (.lst us)) ∨ KLst K b us) (l : RepL K F H ds vs) (l' : RepL K F H es us) : ItRep K F (Itz K a b) (zipD ds es) H := by
  intro i H1 F1 g hd
  have sq : SqL K H1 a vs := lst_grow g ra
  have sq' : SqL K H1 b us := lst_grow g rb
  refine ⟨fun d e => ?_, fun h => ⟨vs, us, sq, sq', ?_⟩⟩
  · obtain ⟨dx, dy, ex, ey, rfl⟩ := zipD_get e
    obtain ⟨v, hv, rp⟩ := l.get ex
    obtain ⟨u, hu, rp'⟩ := l'.get ey
    refine ⟨⟨vs, us, v, u, sq, sq', hv, hu⟩, fun x H2 y => ?_⟩
    obtain ⟨T, x1, y1, rfl, hT, rfl, q1, q2⟩ := y
    have e1 := q1 vs sq
    have e2 := q2 us sq'
    rw [hv] at e1
    rw [hu] at e2
    cases e1
    cases e2
    exact pair_new hT hd (rp.mono g) (rp'.mono g)
  · simp only [zipD, List.length_map, List.length_zip] at h
    rw [l.length, l'.length]
    omega
theorem it_zipT {a b : Addr} {vs us : List V} {ds es : List D} (ra : H a = some (.tup vs) ∨ KTup K a vs) (rb : H b = some (.tup us) ∨ KTup K b us) (l : RepL K F H ds vs) (l' : RepL K F H es us) : ItRep K F (RZ.ItzT K a b) (zipD ds es) H := by
  intro i H1 F1 g hd
  have sq : SqT K H1 a vs := SqT.grow g ra
  have sq' : SqT K H1 b us := SqT.grow g rb
  refine ⟨fun d e => ?_, fun h => ⟨vs, us, sq, sq', ?_⟩⟩
  · obtain ⟨dx, dy, ex, ey, rfl⟩ := zipD_get e
    obtain ⟨v, hv, rp⟩ := l.get ex
    obtain ⟨u, hu, rp'⟩ := l'.get ey
    refine ⟨⟨vs, us, v, u, sq, sq', hv, hu⟩, fun x H2 y => ?_⟩
    obtain ⟨T, x1, y1, rfl, hT, rfl, q1, q2⟩ := y
    have e1 := q1 vs sq
    have e2 := q2 us sq'
    rw [hv] at e1
    rw [hu] at e2
    cases e1
    cases e2
    exact pair_new hT hd (rp.mono g) (rp'.mono g)
  · simp only [zipD, List.length_map, List.length_zip] at h
    rw [l.length, l'.length]
    omega
end

/-! ### enumerate of a tuple -/
section
variable {prog : Program} {w : World} {A : Around} {E : Value → Shared → Prop} {s : Shared}
/-- the end of such an enumerate -/
theorem enumT_end {en it tp : Addr} {i : Nat} {its : Array Value} {old : Value} {Q : Option Value → Shared → Prop} (hh : A.handled = none) (he : IsEnum s.heap en it i old) (hit : s.heap.IsTupleIter it tp i) (ht : s.heap.IsTuple tp its) (hx : its[i]? = none)
    (hQ : ∀ h', Heap.ExtBut it s.heap h' → Q none { s with heap := h' }) : wpAny (model prog w) A (pyNext (.ref en)) Q E s := by
  have ty : s.TypeIs (.ref en) "enumerate" := ⟨_, he, rfl⟩
  unfold pyNext
  refine wpAny_bind (wpAny_attempt (wpAny_callSpecial?_slot (name := Str.ofString "__next__") ty F.slot_enumerate_next (wpAny_call_entry F.slot_enumerate_next ty F.entry_enumerate_next ?_ (F.args_enumerate_next_1 _))))
  show wpAny _ _ (field (.ref en) 2 >>= _) _ _ _
  refine wpAny_bind (wpAny_field he rfl (x := .ref it) rfl (wpAny_bind (wpAny_nextOf_tuple_end hh hit ht hx fun h' x he' ⟨o, ho, hc⟩ => ?_)))
  exact wpAny_bind (wpAny_isInstance (T := "StopIteration") (b := true) ⟨o, ho, hc⟩ isSubtype_stop (wpAny_pure (hQ _ he')))
set_option maxHeartbeats 4000000 in
/-- enumerate(v) of what begins so -/
theorem meets_enum1 {v : Value} {o : Obj} {H : Heap → Prop} (B : Begins v o H) : Meets (Builtin.«enumerate.__new__» ⟨[.type "enumerate", v], []⟩) (fun _ R s => H s.heap ∧
      R (.ok (.ret (.ref (s.heap.push o).objs.size))) { s with heap := (s.heap.push o).push { cls := .type "enumerate", data := .fields #[.none, .bool false, .ref s.heap.objs.size, rawInt 0, .none, .none] } }) :=
  .of_wp fun prog w A R ⟨hp, g, d, tk, os⟩ ⟨h1, h⟩ => by
    have hsub := sub_enumerate
    have q1 : ∀ {A1 : Around} {E1 : Value → Shared → Prop} {Q1 : Value → Shared → Prop}, Q1 (.ref hp.objs.size) ⟨hp.push o, g, d, tk, os⟩ → wpAny (model prog w) A1 (pyIter v) Q1 E1 ⟨hp, g, d, tk, os⟩ := fun q => B.iter prog w _ _ ⟨hp, g, d, tk, os⟩ _ h1 q
    wp_walk using q1
    refine wpAny_stack_any fun st => wpAny_pure ?_
    split
    · rename_i c _ _ _ _ _
      cases (c == Value.type "enumerate") <;> (wp_walk using q1; exact ⟨_, rfl, h⟩)
    · wp_walk using q1; exact ⟨_, rfl, h⟩
theorem call_enumT {tp : Addr} {its : Array Value} {Q : Value → Shared → Prop} (ht : s.heap.IsTuple tp its)
    (h : ∀ h', IsEnum h' (s.heap.objs.size + 1) s.heap.objs.size 0 .none → h'.IsTupleIter s.heap.objs.size tp 0 → (∀ b o, s.heap.get? b = some o → h'.get? b = some o) → Q (.ref (s.heap.objs.size + 1)) { s with heap := h' }) :
    wpAny (model prog w) A (call (.type "enumerate") [.ref tp]) Q E s := by
  have B := begins_tuple tp its
  refine callType_new F.called_enumerate (by decide) (F.typeCall_enumerate_1 _) (F.newCall_enumerate_1 _) (fun ob => F.args_object_init_2 ob _) F.entry_enumerate_new (meets_enum1 B) ⟨ht, ?_⟩
  have hz : (s.heap.push { cls := .type "tuple_iterator", data := .fields #[.ref tp, .int 0 0] }).objs.size = s.heap.objs.size + 1 := Heap.size_push ..
  have he : IsEnum ((s.heap.push { cls := .type "tuple_iterator", data := .fields #[.ref tp, .int 0 0] }).push { cls := .type "enumerate", data := .fields #[.none, .bool false, .ref s.heap.objs.size, rawInt 0, .none, .none] }) (s.heap.objs.size + 1) s.heap.objs.size 0 .none := by
    have q := Heap.get?_push_size (s.heap.push { cls := .type "tuple_iterator", data := .fields #[.ref tp, .int 0 0] }) (o := { cls := .type "enumerate", data := .fields #[.none, .bool false, .ref s.heap.objs.size, rawInt 0, .none, .none] }) rfl
    rw [hz] at q
    exact q
  show _ ∧ _
  rw [hz]
  exact ⟨⟨_, he, rfl⟩, h _ he ⟨_, Heap.get?_push_of_some _ (Heap.get?_push_size _ rfl), rfl, rfl⟩ fun b ob x => Heap.get?_push_of_some _ (Heap.get?_push_of_some _ x)⟩
end
def IteT (K : PySem.W.Frag) (a : Addr) : It :=
  ⟨fun i H => ∃ (xs : List V) (x : V), SqT K H a xs ∧ xs[i]? = some x, fun i H v H' => ∃ T x, v = .ref T ∧ H T = none ∧ H' = upd H T (.tup [.int (i : Nat), x]) ∧ ∀ xs, SqT K H a xs → xs[i]? = some x, fun i H => ∃ xs : List V, SqT K H a xs ∧ xs.length ≤ i⟩
theorem turn_enumT {P : Program} {w : World} {K : PySem.W.Frag} {elts : List Expr} {kk : Nat} {tpos : Pos} (a e it : Addr) :
    Turn P w K (.Tuple elts kk tpos) (IteT K a) [e, it] e (fun i h => (∃ old, IsEnum h e it ((i : Nat) : Int) old) ∧ h.IsTupleIter it a i ∧ e ≠ it ∧ a ≠ it ∧ e ≠ a) where
  mem := by simp
  obj := fun i h st b hb => by
    obtain ⟨⟨old, he⟩, ⟨o, ho, hc, hd⟩, _⟩ := st
    have e' : b = e ∨ b = it := by simpa using hb
    rcases e' with z | z
    · rw [z]; exact ⟨_, he, fun v q => nomatch q⟩
    · rw [z]; exact ⟨o, ho, fun v q => by rw [hd] at q; cases q⟩
  keep := fun i h h' st k => let ⟨⟨old, he⟩, hi, hne⟩ := st; ⟨⟨old, k e (by simp) _ he⟩, hi.at fun o q => k it (by simp) o q, hne⟩
  item := by
    intro X hP hw hK hc i pins s σ H E I hf st hg
    subst hP hw hK
    obtain ⟨⟨old, he⟩, hit, hne, hai, hea⟩ := st
    obtain ⟨xs, x, hq, hx⟩ := hg
    obtain ⟨its, rv, p, hz⟩ := I.tuple hq
    obtain ⟨u, hu, ru⟩ := rv.get hx
    have hel : e < s.heap.objs.size := Heap.lt_size he
    have hil : it < s.heap.objs.size := by obtain ⟨_, q, _⟩ := hit; exact Heap.lt_size q
    have hlt : i < its.toArray.size := by
      have := (List.getElem?_eq_some_iff.mp hu).1
      simpa using this
    refine wpAny_pyNext_enum_itemC (Draws.tuple (prog := X.prog) (w := X.w) (A := X.A.in1) (I.ok.hd hc) it a hai its.toArray) he ⟨hit, p⟩ hlt hne (by simp [hne, hea]) fun x' h' tk hP ho hst' hT hsz hk => ?_
    have ex' : x' = u := by
      have : its.toArray[i]? = some u := by simpa using hu
      rw [this] at hP
      exact (Option.some.inj hP).symm
    subst ex'
    refine ⟨_, rfl, wpAny_letOwnedTupleGo_enum (s := { s with heap := h', toks := tk + 1 }) ho fun h'' he' sb => ?_⟩
    have hT2 : h''.get? s.heap.objs.size = some { cls := .type "tuple", data := .seq #[.int i tk, x'] } := (sb.2 _ (Nat.ne_of_gt hel)).trans hT
    have new : ObjOk X.prog X.w (upd H s.heap.objs.size (.tup [.int (i : Nat), x])) h'' s.heap.objs.size (.tup [.int (i : Nat), x]) :=
      ⟨by show 2 ≤ sizeLine; decide, [.int i tk, x'], .cons ⟨_, rfl⟩ (.cons ru .nil), ⟨_, hT2, rfl, _, rfl⟩⟩
    have I1 : Inv X pins σ (upd H s.heap.objs.size (.tup [.int (i : Nat), x])) { s with heap := h'', toks := tk + 1 } :=
      I.turnedNew (ch := [e, it]) (fun b ob hb q => (sb.2 b (fun z => hb (by simp [z]))).trans (hk b ob (fun z => hb (by simp [z])) (fun z => hb (by simp [z])) q)) hf (Nat.le_refl _) new
    refine ⟨.ref s.heap.objs.size, _, I1, rfl, ⟨_, x, rfl, I.hok.fresh (Nat.le_refl _), rfl, fun ys hy => by rw [I.tuple_inj hy hq]; exact hx⟩, ⟨⟨x', ?_⟩, hst'.1.at fun o q => (sb.2 it (Ne.symm hne)).trans q, hne, hai, hea⟩, fun b hb => ?_⟩
    · have e1 : ((i + 1 : Nat) : Int) = (i : Int) + 1 := by omega
      rw [e1]; exact he'
    · have hb' : b < s.heap.objs.size := by
        have e' : b = e ∨ b = it := by simpa using hb
        rcases e' with z | z
        · rw [z]; exact hel
        · rw [z]; exact hil
      rw [upd_ne (Nat.ne_of_lt hb')]
      exact (hf b hb).1
  done := by
    intro X hP hw hK hc i pins s σ H E I hf st hg
    subst hP hw hK
    obtain ⟨⟨old, he⟩, hit, hne, hai, hea⟩ := st
    obtain ⟨xs, hq, hx⟩ := hg
    obtain ⟨its, rv, p, hz⟩ := I.tuple hq
    obtain ⟨f0, f1, f2, f3, f4, f5⟩ := hf it (by simp)
    have hl := rv.length
    exact enumT_end (I.ok.hd hc) he hit p (by simp; omega) fun h' eb => ⟨rfl, I.turned (t' := s.toks) (fun b o hb q => eb b o hb q) f0 f1 f3 f4 f5⟩
  self := fun A i s Q E st h => let ⟨⟨_, he⟩, _⟩ := st; wpAny_pyIter_enum he h

section
variable {X : Cx} {E : Exs} {tg e : Expr}
/-- for .. in a list or tuple -/
def seqD (f : Env' → Res (D × Nat × Env')) : Env' → Res (List D × Env') := fun ρ => f ρ >>= fun x => match x.1 with
  | .list ds => .ok (ds, x.2.2)
  | .tuple ds => .ok (ds, x.2.2)
  | _ => .stuck
def iSeq (K : PySem.W.Frag) (te : TE) : TI := fun σ H R => te σ H fun x H1 => ∃ a, x = .ref a ∧ (((∃ xs, SqL K H1 a xs) ∧ R (Itl K a) H1) ∨ ((∃ xs, SqT K H1 a xs) ∧ R (Itt K a) H1))
theorem pi_seq {te : TE} (he : PE X e te) : PI X tg e (iSeq X.K te) := by
  refine ⟨fun pins s σ H R I h => thn (he.run pins s σ H _ I h) fun v s1 ⟨x, H1, I1, r1, a, ex, q⟩ => ?_⟩
  subst ex
  cases r1
  have fr : ∀ b ∈ [s1.heap.objs.size], FpOk X pins H1 b := fun b hb => by
    rw [List.mem_singleton.mp hb]; exact I1.fpOk (Nat.le_refl _) (I1.hok.fresh (Nat.le_refl _))
  rcases q with ⟨⟨xs, sq⟩, q⟩ | ⟨⟨xs, sq⟩, q⟩
  · obtain ⟨its, rv, p, _⟩ := I1.list sq
    exact wpAny_pyIter_list p.isList ⟨s1.heap.objs.size, [s1.heap.objs.size], _, _, H1, rfl, I1.kept (t' := s1.toks) fun b o z => Heap.get?_push_of_some _ z, turn_list a _, ⟨_, Heap.get?_push_size _ rfl, rfl, rfl⟩, fr, q⟩
  · obtain ⟨its, rv, p, _⟩ := I1.tuple sq
    exact wpAny_pyIter_tuple (show s1.heap.IsTuple a its.toArray from p) ⟨s1.heap.objs.size, [s1.heap.objs.size], _, _, H1, rfl, I1.kept (t' := s1.toks) fun b o z => Heap.get?_push_of_some _ z, turn_tuple a _, ⟨_, Heap.get?_push_size _ rfl, rfl, rfl⟩, fr, q⟩
/-- frozen, what it is -/
theorem frozen_seq {K : PySem.W.Frag} {F P : AS} {ρ : Env'} {σ : L2.St} {H : Hp} {A : List Addr} {d : D} {n : Nat} {v : V} (r : RelX K F P ρ σ H A) (o : Own K F H n d v A) :
    ∃ F', Step F P H F' H ∧ Rel K F' P ρ σ H ∧ Rep K F' H d v := by
  obtain ⟨st, r'⟩ := r.freeze o.there
  exact ⟨_, st, r', o.rep (fun a h => .inl h) fun a h => .inr h⟩
theorem di_seq {f : Env' → Res (D × Nat × Env')} (he : DE X E e f) : DI X E tg e (seqD f) := by
  obtain ⟨t, pe, qe⟩ := he
  refine ⟨_, pi_seq pe, fun ρ F P σ H R hl r h => qe ρ F P σ H _ hl r (h.bind.same fun x hx v H1 F1 A st r1 o => ?_)⟩
  obtain ⟨F2, st2, r2, rp⟩ := frozen_seq r1 o
  obtain ⟨d, n, ρ1⟩ := x
  cases d <;> try exact hx.elim
  · obtain ⟨a, vs, rfl, rd, l⟩ := rep_list rp
    exact ⟨a, rfl, .inl ⟨⟨vs, lst_sq rd⟩, hx _ H1 F2 (st.trans st2) r2 (it_list rd l)⟩⟩
  · obtain ⟨a, vs, rfl, rd, l⟩ := rep_tuple' rp
    exact ⟨a, rfl, .inr ⟨⟨vs, SqT.grow (Grow.refl F2 H1) rd⟩, hx _ H1 F2 (st.trans st2) r2 (it_tup rd l)⟩⟩
/-- range(n), range(a, b) -/
def range1D (ds : List (D × Nat)) : Option (List D) := match ds with
  | [(.int j, _)] => if -(2 ^ 62) ≤ j ∧ j < 2 ^ 62 then some (rngN 0 j.toNat) else none
  | _ => none
def range2D (ds : List (D × Nat)) : Option (List D) := match ds with
  | [(.int i, _), (.int j, _)] => if -(2 ^ 62) ≤ i ∧ i < 2 ^ 62 ∧ -(2 ^ 62) ≤ j ∧ j < 2 ^ 62 then some (rngN i (j - i).toNat) else none
  | _ => none
theorem di_range1 {a : Expr} {p pos : Pos} {f : Env' → Res (List (D × Nat) × Env')} (hg : Gl X "range") (hm : X.mg "range" = none) (ha : DC X E [a] f) (hs : starEach [a] X.env = [(false, eval a X.env)] := by rfl) :
    DI X E tg (.Call (.Name "range" p) [a] [] pos) fun ρ => f ρ >>= fun x => liftO (range1D x.1) >>= fun ds => .ok (ds, x.2) := by
  obtain ⟨t, pa, qa⟩ := ha
  refine ⟨_, pi_range1 hg hm pa hs, fun ρ F P σ H R hl r h => qa ρ F P σ H _ hl r (h.bind.same fun x hx vs H1 F1 st r1 l => ?_)⟩
  obtain ⟨ds, ρ1⟩ := x
  cases hd : range1D ds with
  | none => rw [hd] at hx; exact hx.elim
  | some es =>
    rw [hd] at hx
    match ds, hd, l with
    | [(.int j, n)], hd, l =>
      simp only [range1D] at hd
      by_cases z : -(2 ^ 62) ≤ j ∧ j < 2 ^ 62
      · rw [if_pos z] at hd
        cases hd
        obtain ⟨v, A, rfl, o⟩ := owns1 l
        exact ⟨j, by rw [own_int o], z.1, z.2, hx _ H1 F1 st r1 it_range⟩
      · rw [if_neg z] at hd; cases hd
theorem di_range2 {a b : Expr} {p pos : Pos} {f : Env' → Res (List (D × Nat) × Env')} (hg : Gl X "range") (hm : X.mg "range" = none) (ha : DC X E [a, b] f) (hs : starEach [a, b] X.env = [(false, eval a X.env), (false, eval b X.env)] := by rfl) (hs2 : starEach [b] X.env = [(false, eval b X.env)] := by rfl) :
    DI X E tg (.Call (.Name "range" p) [a, b] [] pos) fun ρ => f ρ >>= fun x => liftO (range2D x.1) >>= fun ds => .ok (ds, x.2) := by
  obtain ⟨t, pa, qa⟩ := ha
  refine ⟨_, pi_range2 hg hm pa hs hs2, fun ρ F P σ H R hl r h => qa ρ F P σ H _ hl r (h.bind.same fun x hx vs H1 F1 st r1 l => ?_)⟩
  obtain ⟨ds, ρ1⟩ := x
  cases hd : range2D ds with
  | none => rw [hd] at hx; exact hx.elim
  | some es =>
    rw [hd] at hx
    match ds, hd, l with
    | [(.int i, n), (.int j, m)], hd, l =>
      simp only [range2D] at hd
      by_cases z : -(2 ^ 62) ≤ i ∧ i < 2 ^ 62 ∧ -(2 ^ 62) ≤ j ∧ j < 2 ^ 62
      · rw [if_pos z] at hd
        cases hd
        obtain ⟨v, u, A, B, rfl, o1, o2⟩ := owns2 l
        exact ⟨i, j, by rw [own_int o1, own_int o2], z, hx _ H1 F1 st r1 it_range⟩
      · rw [if_neg z] at hd; cases hd
/-- enumerate(x) -/
def iEnumA (K : PySem.W.Frag) (ta : TA) : TI := fun σ H R => ta σ H fun vs H1 => ∃ a, vs = [.ref a] ∧ (((∃ xs, SqL K H1 a xs) ∧ R (Ite K a) H1) ∨ ((∃ xs, SqT K H1 a xs) ∧ R (IteT K a) H1))
theorem pi_enumA {ta : TA} {p pos tpos : Pos} {elts : List Expr} {kk : Nat} (hg : Gl X "enumerate") (hm : X.mg "enumerate" = none) (ha : PA X [e] ta) (hs : starEach [e] X.env = [(false, eval e X.env)] := by rfl) : PI X (.Tuple elts kk tpos) (.Call (.Name "enumerate" p) [e] [] pos) (iEnumA X.K ta) := by
  refine ⟨fun pins s σ H R I h => Call_ (ld_blt I hg hm boot_enumerate (PyProof.Rows.callWith_type1 (thn (ha.run pos pins s σ H _ I h) fun us s1 ⟨vs, H1, I1, r1, a, ex, q⟩ => ?_) hs rfl))⟩
  subst ex
  obtain ⟨u, rfl, ru⟩ := vals1 r1
  cases ru
  have fr : ∀ b ∈ [s1.heap.objs.size + 1, s1.heap.objs.size], FpOk X pins H1 b := fun b hb => by
    have hle : s1.heap.objs.size ≤ b := by
      rcases (by simpa using hb : b = s1.heap.objs.size + 1 ∨ b = s1.heap.objs.size) with z | z
      · rw [z]; exact Nat.le_succ _
      · rw [z]; exact Nat.le_refl _
    exact I1.fpOk hle (I1.hok.fresh hle)
  rcases q with ⟨⟨xs, sq⟩, q⟩ | ⟨⟨xs, sq⟩, q⟩
  · obtain ⟨its, rv, p', _⟩ := I1.list sq
    refine call_enumerate_list p'.isList fun h' he hit hsz hk => wpAny_pyIter_enum he ?_
    exact ⟨s1.heap.objs.size + 1, [s1.heap.objs.size + 1, s1.heap.objs.size], _, _, H1, rfl, I1.kept (t' := s1.toks) hk, turn_enum a (s1.heap.objs.size + 1) s1.heap.objs.size, ⟨⟨.none, he⟩, hit, Nat.succ_ne_self _⟩, fr, q⟩
  · obtain ⟨its, rv, p', _⟩ := I1.tuple sq
    have la : a < s1.heap.objs.size := p'.lt
    refine call_enumT p' fun h' he hit hk => wpAny_pyIter_enum he ?_
    exact ⟨s1.heap.objs.size + 1, [s1.heap.objs.size + 1, s1.heap.objs.size], _, _, H1, rfl, I1.kept (t' := s1.toks) hk, turn_enumT a (s1.heap.objs.size + 1) s1.heap.objs.size, ⟨⟨.none, he⟩, hit, Nat.succ_ne_self _, Nat.ne_of_lt la, Nat.ne_of_gt (Nat.lt_succ_of_lt la)⟩, fr, q⟩
theorem it_enumT {K : PySem.W.Frag} {F : AS} {H : Hp} {a : Addr} {vs : List V} {ds : List D} (r : H a = some (.tup vs) ∨ KTup K a vs) (l : RepL K F H ds vs) : ItRep K F (IteT K a) (enumD ds) H := by
  intro i H1 F1 g hd
  have sq : SqT K H1 a vs := SqT.grow g r
  refine ⟨fun d e => ?_, fun h => ⟨vs, sq, by rw [l.length]; simpa [enumD] using h⟩⟩
  obtain ⟨d', e', rfl⟩ := enumD_get e
  obtain ⟨v, hv, rp⟩ := l.get e'
  refine ⟨⟨vs, v, sq, hv⟩, fun x H2 y => ?_⟩
  obtain ⟨T, x', rfl, hT, rfl, y⟩ := y
  have := y vs sq
  rw [hv] at this
  cases this
  exact pair_new hT hd (.int _) (rp.mono g)
def enum1 (f : Env' → Res (List D × Env')) : Env' → Res (List D × Env') := fun ρ => f ρ >>= fun x => match x.1 with
  | [.list ds] => .ok (enumD ds, x.2)
  | [.tuple ds] => .ok (enumD ds, x.2)
  | _ => .stuck
theorem rep1 {K : PySem.W.Frag} {F : AS} {H : Hp} {d : D} {vs : List V} (l : RepL K F H [d] vs) : ∃ v, vs = [v] ∧ Rep K F H d v := by
  cases l with
  | cons h t => cases t; exact ⟨_, rfl, h⟩
theorem rep2 {K : PySem.W.Frag} {F : AS} {H : Hp} {d d' : D} {vs : List V} (l : RepL K F H [d, d'] vs) : ∃ v u, vs = [v, u] ∧ Rep K F H d v ∧ Rep K F H d' u := by
  cases l with
  | cons h t => obtain ⟨u, rfl, h'⟩ := rep1 t; exact ⟨_, u, rfl, h, h'⟩
theorem di_enum {p pos tpos : Pos} {elts : List Expr} {kk : Nat} {f : Env' → Res (List D × Env')} (hg : Gl X "enumerate") (hm : X.mg "enumerate" = none) (ha : DA X E [e] f) (hs : starEach [e] X.env = [(false, eval e X.env)] := by rfl) : DI X E (.Tuple elts kk tpos) (.Call (.Name "enumerate" p) [e] [] pos) (enum1 f) := by
  obtain ⟨t, pa, qa⟩ := ha
  refine ⟨_, pi_enumA hg hm pa hs, fun ρ F P σ H R hl r h => qa ρ F P σ H _ hl r (h.bind.same fun x hx vs H1 F1 st r1 l => ?_)⟩
  obtain ⟨ds, ρ1⟩ := x
  dsimp only at hx
  split at hx
  · rename_i xs
    obtain ⟨v, rfl, rp⟩ := rep1 l
    obtain ⟨a, us, rfl, rd, l'⟩ := rep_list rp
    exact ⟨a, rfl, .inl ⟨⟨us, lst_sq rd⟩, hx _ H1 F1 st r1 (it_enum rd l')⟩⟩
  · rename_i xs
    obtain ⟨v, rfl, rp⟩ := rep1 l
    obtain ⟨a, us, rfl, rd, l'⟩ := rep_tuple' rp
    exact ⟨a, rfl, .inr ⟨⟨us, SqT.grow (Grow.refl F1 H1) rd⟩, hx _ H1 F1 st r1 (it_enumT rd l')⟩⟩
  · exact hx.elim
def zip2 (f : Env' → Res (List D × Env')) : Env' → Res (List D × Env') := fun ρ => f ρ >>= fun x => match x.1 with
  | [.list ds, .list es] => .ok (zipD ds es, x.2)
  | [.tuple ds, .tuple es] => .ok (zipD ds es, x.2)
  | _ => .stuck
theorem di_zip {e2 : Expr} {p pos tpos : Pos} {elts : List Expr} {kk : Nat} {f : Env' → Res (List D × Env')} (hg : Gl X "zip") (hm : X.mg "zip" = none) (ha : DA X E [e, e2] f)
    (hs : starEach [e, e2] X.env = (false, eval e X.env) :: starEach [e2] X.env := by rfl) (hpl : (backTo pos (starEach [e2] X.env)).any (·.1) = false := by rfl) : DI X E (.Tuple elts kk tpos) (.Call (.Name "zip" p) [e, e2] [] pos) (zip2 f) := by
  obtain ⟨t, pa, qa⟩ := ha
  refine ⟨_, RZ.pi_zipA hg hm pa hs hpl, fun ρ F P σ H R hl r h => qa ρ F P σ H _ hl r (h.bind.same fun x hx vs H1 F1 st r1 l => ?_)⟩
  obtain ⟨ds, ρ1⟩ := x
  unfold zip2 at h
  dsimp only at hx
  split at hx
  · rename_i xs ys
    obtain ⟨v, u, rfl, rp, rp'⟩ := rep2 l
    obtain ⟨a, us, rfl, rd, l1⟩ := rep_list rp
    obtain ⟨b, ws, rfl, rd', l'⟩ := rep_list rp'
    exact ⟨a, b, us, ws, rfl, .inl ⟨lst_sq rd, lst_sq rd', hx _ H1 F1 st r1 (it_zip rd rd' l1 l')⟩⟩
  · rename_i xs ys
    obtain ⟨v, u, rfl, rp, rp'⟩ := rep2 l
    obtain ⟨a, us, rfl, rd, l1⟩ := rep_tuple' rp
    obtain ⟨b, ws, rfl, rd', l'⟩ := rep_tuple' rp'
    exact ⟨a, b, us, ws, rfl, .inr ⟨SqT.grow (Grow.refl F1 H1) rd, SqT.grow (Grow.refl F1 H1) rd', hx _ H1 F1 st r1 (it_zipT rd rd' l1 l')⟩⟩
  · exact hx.elim
end
end DL

namespace DL
open PySem PySem.Spec PyProof.Rows L2

/-! ### readings that are the same in every block -/
abbrev E00 : Exs := fun _ _ _ _ => False
def canE (X : Cx) (E : Exs) (f : Env' → Res (D × Nat × Env')) : TE := fun σ H Q => ∃ (ρ : Env') (F P : AS), ρ.length = X.N.length ∧ Rel X.K F P ρ σ H ∧
  Post X E F P σ H (f ρ) (fun r => ∀ v H' F' A, Step F P H F' H' → RelX X.K F' P r.2.2 σ H' A → Own X.K F' H' r.2.1 r.1 v A → Q v H')
theorem DE.can {X : Cx} {E : Exs} {e : Expr} {f : Env' → Res (D × Nat × Env')} (h : DE X E e f) : PE X e (canE X E f) := by
  obtain ⟨t, pe, q⟩ := h
  exact ⟨fun pins s σ H Q I ⟨ρ, F, P, hl, r, p⟩ => pe.run pins s σ H Q I (q ρ F P σ H Q hl r p)⟩
structure DTs (X : Cx) (E : Exs) (ifs : List Expr) (f : Env' → Res (Bool × Env')) : Prop where
  ex : ∃ t, PTs X ifs t ∧ ∀ (ρ : Env') (F P : AS) (σ : L2.St) (H : Hp) (Q : Bool → Hp → Prop), ρ.length = X.N.length → Rel X.K F P ρ σ H →
    Post X E F P σ H (f ρ) (fun r => ∀ H' F', Step F P H F' H' → Rel X.K F' P r.2 σ H' → Q r.1 H') → t σ H Q
def yesT : Env' → Res (Bool × Env') := fun ρ => .ok (true, ρ)
theorem dts_nil {X : Cx} {E : Exs} : DTs X E [] yesT := ⟨_, pts_nil, fun ρ F P σ H Q hl r h => h H F Step.refl r⟩
theorem dts_one {X : Cx} {E : Exs} {c : Expr} {f : Env' → Res (Bool × Env')} (h : DT X E c f) : DTs X E [c] f := by
  obtain ⟨t, p, q⟩ := h
  exact ⟨_, pts_one p, q⟩
def canT (X : Cx) (E : Exs) (f : Env' → Res (Bool × Env')) : TT := fun σ H Q => ∃ (ρ : Env') (F P : AS), ρ.length = X.N.length ∧ Rel X.K F P ρ σ H ∧
  Post X E F P σ H (f ρ) (fun r => ∀ H' F', Step F P H F' H' → Rel X.K F' P r.2 σ H' → Q r.1 H')
theorem DTs.can {X : Cx} {E : Exs} {ifs : List Expr} {f : Env' → Res (Bool × Env')} (h : DTs X E ifs f) : PTs X ifs (canT X E f) := by
  obtain ⟨t, pe, q⟩ := h
  exact ⟨fun pins s σ H Q I ⟨ρ, F, P, hl, r, p⟩ => pe.run pins s σ H Q I (q ρ F P σ H Q hl r p)⟩
def canG (X : Cx) (vs : List Nat) (g : D → Nat → Env' → Res Env') : TG := fun v σ H Q => ∃ (ρ ρ' : Env') (F P : AS) (d : D) (n : Nat) (A : List Addr), ρ.length = X.N.length ∧ RelX X.K F P ρ σ H A ∧ Own X.K F H n d v A ∧
    g d n ρ = .ok ρ' ∧ (∀ σ' F' H', (σ'.length = σ.length ∧ ∀ j, j ∉ vs → σ'[j]? = σ[j]?) → Step F P H F' H' → Rel X.K F' P ρ' σ' H' → Q σ' H')
theorem DG.can {X : Cx} {tg : Expr} {vs : List Nat} {g : D → Nat → Env' → Res Env'} (h : DG X tg vs g) : PG X tg (canG X vs g) := by
  obtain ⟨t, pg, q⟩ := h
  exact ⟨fun pins s σ H v u Q I r ⟨ρ, ρ', F, P, d, n, A, h1, h2, h3, h4, h5⟩ => pg.run pins s σ H v u Q I r (q ρ ρ' F P σ H v d n A Q h1 h2 h3 h4 h5)⟩
def canI (X : Cx) (E : Exs) (f : Env' → Res (List D × Env')) : TI := fun σ H R => ∃ (ρ : Env') (F P : AS), ρ.length = X.N.length ∧ Rel X.K F P ρ σ H ∧
  Post X E F P σ H (f ρ) (fun r => ∀ J H' F', Step F P H F' H' → Rel X.K F' P r.2 σ H' → ItRep X.K F' J r.1 H' → R J H')
theorem DI.can {X : Cx} {E : Exs} {tg iter : Expr} {f : Env' → Res (List D × Env')} (h : DI X E tg iter f) : PI X tg iter (canI X E f) := by
  obtain ⟨t, pe, q⟩ := h
  exact ⟨fun pins s σ H R I ⟨ρ, F, P, hl, r, p⟩ => pe.run pins s σ H R I (q ρ F P σ H R hl r p)⟩

def wipeD (ρ : Env') : List Nat → Env'
  | [] => ρ
  | v :: vs => (wipeD ρ vs).set v none
theorem wipeD_length (ρ : Env') : ∀ vs : List Nat, (wipeD ρ vs).length = ρ.length
  | [] => rfl
  | v :: vs => by unfold wipeD; rw [List.length_set, wipeD_length ρ vs]
theorem wipeD_some {ρ : Env'} {i : Nat} {x : D × Nat} : ∀ {vs : List Nat}, (wipeD ρ vs)[i]? = some (some x) → ρ[i]? = some (some x) ∧ i ∉ vs
  | [], h => ⟨h, by simp⟩
  | v :: vs, h => by
    unfold wipeD at h
    by_cases hi : v = i
    · subst hi
      by_cases hv : v < (wipeD ρ vs).length
      · rw [List.getElem?_set_self hv] at h; cases h
      · rw [List.getElem?_eq_none (by simpa using hv)] at h; cases h
    · rw [List.getElem?_set_ne hi] at h
      obtain ⟨h1, h2⟩ := wipeD_some h
      exact ⟨h1, by simp only [List.mem_cons, not_or]; exact ⟨fun e => hi e.symm, h2⟩⟩
theorem wipe_get {σ : L2.St} {i : Nat} : ∀ {vs : List Nat}, i ∉ vs → (wipe σ vs)[i]? = σ[i]?
  | [], _ => rfl
  | v :: vs, h => by
    unfold wipe
    simp only [List.mem_cons, not_or] at h
    rw [List.getElem?_set_ne (Ne.symm h.1)]
    exact wipe_get h.2
theorem wipe_in {σ : L2.St} {i : Nat} : ∀ {vs : List Nat}, i ∈ vs → i < σ.length → (wipe σ vs)[i]? = some none
  | v :: vs, h, hl => by
    unfold wipe
    by_cases e : v = i
    · subst e
      rw [List.getElem?_set_self (by rw [wipe_length]; exact hl)]
    · rw [List.getElem?_set_ne e]
      rcases List.mem_cons.mp h with z | z
      · exact absurd z.symm e
      · exact wipe_in z hl
theorem wipe_eq {σ σ' : L2.St} {vs : List Nat} (hl : σ'.length = σ.length) (h : ∀ j, j ∉ vs → σ'[j]? = σ[j]?) : wipe σ' vs = wipe σ vs := by
  refine List.ext_getElem? fun i => ?_
  by_cases hi : i < σ.length
  · by_cases hv : i ∈ vs
    · rw [wipe_in hv hi, wipe_in hv (by omega)]
    · rw [wipe_get hv, wipe_get hv, h i hv]
  · rw [List.getElem?_eq_none (by rw [wipe_length]; omega), List.getElem?_eq_none (by rw [wipe_length]; omega)]
section
variable {K : PySem.W.Frag} {F P : AS} {ρ : Env'} {σ σ' : L2.St} {H : Hp} {A : List Addr} {vs : List Nat}
theorem RelX.wipe (r : RelX K F P ρ σ H A) (e : L2.wipe σ vs = σ') : RelX K F P (wipeD ρ vs) σ' H A := by
  subst e
  refine r.forget _ (wipe_length σ vs) _ (wipeD_length ρ vs) fun i x h => ?_
  obtain ⟨h1, h2⟩ := wipeD_some h
  exact ⟨h1, wipe_get h2⟩
end
/-- the slots that a comprehension's names hide come back -/
def keepS : Option (Option (D × Nat)) → Option (D × Nat)
  | some (some (d, n)) => if n = 0 ∨ still d = true then some (d, 0) else none
  | _ => none
def restD (ρ ρ' : Env') : List Nat → Env'
  | [] => ρ'
  | v :: vs => (restD ρ ρ' vs).set v (keepS ρ[v]?)
theorem restD_length (ρ ρ' : Env') : ∀ vs : List Nat, (restD ρ ρ' vs).length = ρ'.length
  | [] => rfl
  | v :: vs => by unfold restD; rw [List.length_set, restD_length ρ ρ' vs]
theorem restD_some {ρ ρ' : Env'} {i : Nat} {x : D × Nat} : ∀ {vs : List Nat}, (restD ρ ρ' vs)[i]? = some (some x) → (i ∉ vs ∧ ρ'[i]? = some (some x)) ∨ keepS ρ[i]? = some x
  | [], h => .inl ⟨by simp, h⟩
  | v :: vs, h => by
    unfold restD at h
    by_cases hi : v = i
    · subst hi
      by_cases hv : v < (restD ρ ρ' vs).length
      · rw [List.getElem?_set_self hv] at h; exact .inr (Option.some.inj h)
      · rw [List.getElem?_eq_none (by simpa using hv)] at h; cases h
    · rw [List.getElem?_set_ne hi] at h
      rcases restD_some h with ⟨h1, h2⟩ | h1
      · exact .inl ⟨by simp only [List.mem_cons, not_or]; exact ⟨fun e => hi e.symm, h1⟩, h2⟩
      · exact .inr h1
theorem RelX.rest {K : PySem.W.Frag} {F P F' : AS} {ρ ρ' : Env'} {σ : L2.St} {H H' : Hp} {A B : List Addr} {vs : List Nat} (r : RelX K F P ρ σ H A) (g : Grow F H F' H') (r' : RelX K F' P ρ' (L2.wipe σ vs) H' B) : RelX K F' P (restD ρ ρ' vs) σ H' B := by
  obtain ⟨hl, hd, hn, w, h1, h2, h3⟩ := r
  obtain ⟨hl', hd', hn', w', h1', h2', h3'⟩ := r'
  refine ⟨by rw [restD_length, hl', wipe_length], hd', hn', w', fun i d n e => ?_, h2', h3'⟩
  rcases restD_some e with ⟨q1, q2⟩ | q
  · obtain ⟨v, C, e1, o, nd, hw⟩ := h1' i d n q2
    exact ⟨v, C, by rw [← wipe_get q1]; exact e1, o, nd, hw⟩
  · unfold keepS at q
    split at q
    · rename_i d0 n0 hρ
      split at q
      · rename_i z
        cases q
        obtain ⟨v, C, e1, o, nd, hw⟩ := h1 i d n0 hρ
        exact ⟨v, [], e1, ⟨rfl, (o.still z).2.mono g⟩, List.nodup_nil, fun a ha => by cases ha⟩
      · cases q
    · cases q
def noExc {α : Type} : Res α → Res α
  | .ok a => .ok a
  | _ => .stuck
@[simp] theorem noExc_ok {α : Type} (a : α) : noExc (.ok a) = .ok a := rfl
/-- the turns of a comprehension -/
def compF (g : D → Nat → Env' → Res Env') (c : Env' → Res (Bool × Env')) (f : Env' → Res (D × Nat × Env')) (vs : List Nat) : List D → Env' → Res (List D × Env')
  | [], ρ => .ok ([], ρ)
  | d :: ds, ρ => match g d 0 ρ with
    | .ok ρ1 => noExc (c ρ1) >>= fun x => if x.1 = true then noExc (f x.2) >>= fun y => compF g c f vs ds (wipeD y.2.2 vs) >>= fun z => .ok (y.1 :: z.1, z.2) else compF g c f vs ds (wipeD x.2 vs)
    | _ => .stuck
/-- the whole of it -/
def lcF (fi : Env' → Res (List D × Env')) (g : D → Nat → Env' → Res Env') (c : Env' → Res (Bool × Env')) (f : Env' → Res (D × Nat × Env')) (vs : List Nat) : Env' → Res (D × Nat × Env') := fun ρ => fi ρ >>= fun r => if r.1.length ≤ line then compF g c f vs r.1 (wipeD r.2 vs) >>= fun z => .ok (.list z.1, 1, restD r.2 z.2 vs) else .stuck

theorem compF_no {g : D → Nat → Env' → Res Env'} {c : Env' → Res (Bool × Env')} {f : Env' → Res (D × Nat × Env')} {vs : List Nat} : ∀ {ds : List D} {ρ : Env'} {x : Exn} {ρ' : Env'}, compF g c f vs ds ρ ≠ .exc x ρ'
  | [], _, _, _, h => by cases h
  | d :: ds, ρ, x, ρ', h => by
    simp only [compF] at h
    cases e : g d 0 ρ with
    | stuck => rw [e] at h; cases h
    | exc _ _ => rw [e] at h; cases h
    | ok ρ1 =>
      rw [e] at h
      dsimp only at h
      cases e1 : c ρ1 with
      | stuck => rw [e1] at h; cases h
      | exc _ _ => rw [e1] at h; cases h
      | ok y =>
        rw [e1] at h
        simp only [noExc_ok, bind_ok] at h
        by_cases z : y.1 = true
        · rw [if_pos z] at h
          cases e2 : f y.2 with
          | stuck => rw [e2] at h; cases h
          | exc _ _ => rw [e2] at h; cases h
          | ok w =>
            rw [e2] at h
            simp only [noExc_ok, bind_ok] at h
            cases e3 : compF g c f vs ds (wipeD w.2.2 vs) with
            | stuck => rw [e3] at h; cases h
            | exc _ _ => exact compF_no e3
            | ok _ => rw [e3] at h; cases h
        · rw [if_neg z] at h
          exact compF_no h

section
variable {X : Cx} {E : Exs} {tg iter elt : Expr} {ifs : List Expr} {scope : Scope} {own : List (Str × Nat)} {pos : Pos} {W : Nat → Bool}
theorem lc_from {vs ws : List Nat} {g : D → Nat → Env' → Res Env'} {c : Env' → Res (Bool × Env')} {f : Env' → Res (D × Nat × Env')} (hw : ∀ i ∈ ws, i ∈ vs) {J : It}
    {ρ : Env'} {q : List D × Env'} {F F0 P : AS} {σ : L2.St} {H H0 : Hp} {Q : VK} (hl : ρ.length = X.N.length) (r : Rel X.K F P ρ σ H) (st0 : Step F P H F0 H0) (r0 : Rel X.K F0 P q.2 σ H0) (it : ItRep X.K F0 J q.1 H0)
    (hq : Post X E F P σ H (if q.1.length ≤ line then compF g c f vs q.1 (wipeD q.2 vs) >>= fun z => .ok (.list z.1, 1, restD q.2 z.2 vs) else .stuck) (fun r => ∀ v H' F' A, Step F P H F' H' → RelX X.K F' P r.2.2 σ H' A → Own X.K F' H' r.2.1 r.1 v A → Q v H')) :
    tLc (fun _ H1 R => R J H1) (canG X ws g) (canT X E00 c) (canE X E00 f) vs σ H0 Q := by
  intro L hL
  by_cases hz : q.1.length ≤ line
  · rw [if_pos hz] at hq
    have l0 : q.2.length = X.N.length := rel_len r hl r0
    obtain ⟨al, ow⟩ := alloc_list (K := X.K) hL (fun a f => r0.dom a (.inl f)) .nil
    have r1 := al.rel r0
    have st1 := al.step r0
    have nF : ¬ F0 L := fun z => r0.dom L (.inl z) hL
    have nP : ¬ P L := fun z => r0.dom L (.inr z) hL
    refine ⟨fun i m H1 => m = q.1.length - i ∧ i ≤ q.1.length ∧ ∃ (ρ1 : Env') (F1 : AS) (acc : List V) (es : List D), ρ1.length = X.N.length ∧ Step F0 P H0 F1 H1 ∧ RelX X.K F1 P ρ1 (wipe σ vs) H1 [L] ∧ H1 L = some (.lst acc) ∧ RepL X.K F1 H1 es acc ∧ acc.length ≤ i ∧
      Post X E F0 P σ H0 (compF g c f vs (q.1.drop i) ρ1) (fun z => ∀ v H' F' A, Step F0 P H0 F' H' → RelX X.K F' P z.2 (wipe σ vs) H' A → Own X.K F' H' 1 (.list (es ++ z.1)) v A → Q v H'),
      ⟨q.1.length, rfl, Nat.zero_le _, wipeD q.2 vs, F0, [], [], by rw [wipeD_length]; exact l0, st1, r1.wipe rfl, upd_same, .nil, Nat.le_refl _, ?_⟩, ?_⟩
    · exact (hq.bind.imp st0 (fun _ z => z) fun z hz' v H' F' A st' r' o' => hz' v H' F' A (st0.trans st') (r0.rest st'.grow r') o')
    · rintro i m H1 ⟨em, hi, ρ1, F1, acc, es, l1, st, r1, hLL, rp, ha, h1⟩
      have nF1 : ¬ F1 L := r1.2.2.2.elim fun w z => (z.2.2 L List.mem_cons_self).2.1
      obtain ⟨it1, it2⟩ := it i H1 F1 st.grow fun a z => r1.dom a (.inl z)
      by_cases hlt : i < q.1.length
      · obtain ⟨go, yl⟩ := it1 _ (List.getElem?_eq_getElem hlt)
        rw [List.drop_eq_getElem_cons hlt] at h1
        simp only [compF] at h1
        refine .inr ⟨go, fun H' => ∃ (ρ1 : Env') (F1 : AS) (acc : List V) (es : List D), ρ1.length = X.N.length ∧ Step F0 P H0 F1 H' ∧ RelX X.K F1 P ρ1 (wipe σ vs) H' [L] ∧ H' L = some (.lst acc) ∧ RepL X.K F1 H' es acc ∧ acc.length ≤ i + 1 ∧
          Post X E F0 P σ H0 (compF g c f vs (q.1.drop (i + 1)) ρ1) (fun z => ∀ v H'' F' A, Step F0 P H0 F' H'' → RelX X.K F' P z.2 (wipe σ vs) H'' A → Own X.K F' H'' 1 (.list (es ++ z.1)) v A → Q v H''),
          fun H' z => ⟨q.1.length - (i + 1), by omega, rfl, hlt, z⟩, fun x H2 hy => ?_⟩
        obtain ⟨F2, al2, rpx⟩ := yl x H2 hy
        have hr := r1.hold (fun a ha => by rw [List.mem_singleton.mp ha, hLL]; exact fun z => by cases z)
        have r2 := al2.rel hr
        have s2 := al2.step hr
        cases eg : g q.1[i] 0 ρ1 with
        | exc y z => rw [eg] at h1; exact h1.elim
        | stuck => rw [eg] at h1; exact h1.elim
        | ok ρ2 =>
          rw [eg] at h1
          dsimp only at h1
          have l2 : ρ2.length = X.N.length → True := fun _ => trivial
          refine ⟨ρ1, ρ2, F2, _, q.1[i], 0, [], l1, r2, ⟨rfl, rpx⟩, eg, fun σ3 F3 H3 hσ s3 r3 => ?_⟩
          have ew : wipe σ3 vs = wipe σ vs := wipe_eq (by rw [hσ.1, wipe_length]) fun j hj => by rw [hσ.2 j fun z => hj (hw j z), wipe_get hj]
          have l3 : ρ2.length = X.N.length := by rw [r3.1, hσ.1, ← r1.1, l1]
          have s13 := s2.trans s3
          refine ⟨ew, ρ2, F3, _, l3, r3, ?_⟩
          cases ec : c ρ2 with
          | stuck => rw [ec] at h1; exact h1.elim
          | exc y z => rw [ec] at h1; exact h1.elim
          | ok x' =>
          rw [ec] at h1
          simp only [noExc_ok, bind_ok] at h1
          intro H4 F4 s4 r4
          have l4 := rel_len r3 l3 r4
          have s14 := s13.trans s4
          by_cases z : x'.1 = true
          · rw [if_pos z] at h1 ⊢
            refine ⟨x'.2, F4, _, l4, r4, ?_⟩
            cases ef : f x'.2 with
            | stuck => rw [ef] at h1; exact h1.elim
            | exc y z => rw [ef] at h1; exact h1.elim
            | ok y =>
            rw [ef] at h1
            simp only [noExc_ok, bind_ok] at h1
            intro v H5 F5 A s5 r5 o5
            obtain ⟨F6, s6, r6, rp6⟩ := frozen_seq r5 o5
            have s16 := (s14.trans s5).trans s6
            have eL : H5 L = some (.lst acc) := (s16.prot L (.inr List.mem_cons_self)).trans hLL
            have nF6 : ¬ F6 L := fun w => (s16.fresh L w).elim nF1 fun w => w (.inr List.mem_cons_self)
            have r7 := r6.unhold (A := [L]) (by simp) fun a ha => by rw [List.mem_singleton.mp ha]; exact ⟨nF6, nP⟩
            have ef7 : Eff F6 H5 ([L] ++ []) F6 (upd H5 L (.lst (acc ++ [v]))) [L] := ⟨fun a o q n => by rw [upd_ne (by simpa using n)]; exact q, fun _ w => w, fun _ w => .inl w, fun a ha => ⟨.inr (by simpa using ha), by rw [List.mem_singleton.mp ha]; exact nF6⟩, by simp, fun a w => by
              rw [upd_ne (fun e => nF6 (by rw [← e]; exact w))]; exact r7.dom a (.inl w), fun a us q => by rw [upd_ne fun e => by rw [e, eL] at q; cases q]; exact q⟩
            have r8 := (ef7.rel r7).wipe ew
            have g8 := ef7.growF r7
            refine ⟨acc, eL, ?_, wipeD y.2.2 vs, F6, acc ++ [v], es ++ [y.1], by rw [wipeD_length]; exact rel_len r4 l4 r5, (st.trans (s16.less fun _ w => .inl w)).trans (ef7.step r7), r8, upd_same, (rp.mono (s16.grow.trans g8)).append (.cons (rp6.mono g8) .nil), by rw [List.length_append]; show acc.length + 1 ≤ i + 1; omega, ?_⟩
            · rw [line_eq]
              show acc.length < 16777216
              have : q.1.length ≤ 16777216 := hz
              omega
            · refine h1.bind.same fun w hw' v' H' F' A' st' r' o' => hw' v' H' F' A' st' r' ?_
              rw [List.append_assoc] at o'
              exact o'
          · rw [if_neg z] at h1 ⊢
            have eL : H4 L = some (.lst acc) := (s14.prot L (.inr List.mem_cons_self)).trans hLL
            have nF4 : ¬ F4 L := fun w => (s14.fresh L w).elim nF1 fun w => w (.inr List.mem_cons_self)
            have r7 := r4.unhold (A := [L]) (by simp) fun a ha => by rw [List.mem_singleton.mp ha]; exact ⟨nF4, nP⟩
            exact ⟨wipeD x'.2 vs, F4, acc, es, by rw [wipeD_length]; exact l4, st.trans (s14.less fun _ w => .inl w), r7.wipe ew, eL, rp.mono s14.grow, Nat.le_succ_of_le ha, h1⟩
      · have ei : i = q.1.length := by omega
        rw [List.drop_eq_nil_of_le (by omega)] at h1
        exact .inl ⟨it2 (by omega), h1 _ H1 F1 [L] st r1 (by rw [List.append_nil]; exact .inr (.inl ⟨es, L, acc, [], rfl, rfl, hLL, rfl, AllOwn.of_rep rp⟩))⟩
  · rw [if_neg hz] at hq; exact hq.elim
theorem lc_end {vs ws : List Nat} {fi : Env' → Res (List D × Env')} {g : D → Nat → Env' → Res Env'} {c : Env' → Res (Bool × Env')} {f : Env' → Res (D × Nat × Env')} (hw : ∀ i ∈ ws, i ∈ vs)
    {ρ : Env'} {F P : AS} {σ : L2.St} {H : Hp} {Q : VK} (hl : ρ.length = X.N.length) (r : Rel X.K F P ρ σ H)
    (h : Post X E F P σ H (lcF fi g c f vs ρ) (fun r => ∀ v H' F' A, Step F P H F' H' → RelX X.K F' P r.2.2 σ H' A → Own X.K F' H' r.2.1 r.1 v A → Q v H')) :
    tLc (canI X E fi) (canG X ws g) (canT X E00 c) (canE X E00 f) vs σ H Q := by
  exact ⟨ρ, F, P, hl, r, h.bind.same fun q hq J H0 F0 st0 r0 it => lc_from hw hl r st0 r0 it hq⟩
theorem de_lc {ws : List Nat} {fi : Env' → Res (List D × Env')} {g : D → Nat → Env' → Res Env'} {c : Env' → Res (Bool × Env')} {f : Env' → Res (D × Nat × Env')} (hc : X.calm = true) (hN : X.N.Nodup) (hi : DI X E tg iter fi) (ok : BlkOk X.N X.env.scope scope own)
    (hg : ∀ (s : Shared) (H : Hp) (C : Addr) (cl : List (Str × Addr)) (fp : List Addr), DG (X.blk s H scope (compEnvC scope cl C X.env) fp) tg ws g) (ht : ∀ (s : Shared) (H : Hp) (C : Addr) (cl : List (Str × Addr)) (fp : List Addr), DTs (X.blk s H scope (compEnvC scope cl C X.env) fp) E00 ifs c)
    (he : ∀ (s : Shared) (H : Hp) (C : Addr) (cl : List (Str × Addr)) (fp : List Addr), DE (X.blk s H scope (compEnvC scope cl C X.env) fp) E00 elt f) (hw : ∀ i ∈ ws, i ∈ own.map (·.2) := by decide) (hs : ∀ x, foldedSetIterable iter X.env x = pure x := by intro _; rfl) :
    DE X E (.ListComp elt [⟨tg, iter, ifs, 0⟩] scope pos) (lcF fi g c f (own.map (·.2))) := by
  refine ⟨_, pe_lc (g := canG X ws g) (tt := canT X E00 c) (te := canE X E00 f) hc hN hi.can ok (fun s H C cl fp => (hg s H C cl fp).can) (fun s H C cl fp => (ht s H C cl fp).can) (fun s H C cl fp => (he s H C cl fp).can) hs, fun ρ F P σ H Q hl r h => lc_end hw hl r h⟩
/-- name = [..] -/
theorem ds_setLc (i : Nat) {y : Str} {py : Pos} {spos : Pos} {ws : List Nat} {fi : Env' → Res (List D × Env')} {g : D → Nat → Env' → Res Env'} {c : Env' → Res (Bool × Env')} {f : Env' → Res (D × Nat × Env')} (hc : X.calm = true) (hN : X.N.Nodup) (hyl : X.env.scope.names.lookup y = some .local)
    (hsw : swapsWith (.ListComp elt [⟨tg, iter, ifs, 0⟩] scope pos) (some (.Name y py)) spos.line X.env = pure true) (hi : DI X E tg iter fi) (ok : BlkOk X.N X.env.scope scope own)
    (hg : ∀ (s : Shared) (H : Hp) (C : Addr) (cl : List (Str × Addr)) (fp : List Addr), DG (X.blk s H scope (compEnvC scope cl C X.env) fp) tg ws g) (ht : ∀ (s : Shared) (H : Hp) (C : Addr) (cl : List (Str × Addr)) (fp : List Addr), DTs (X.blk s H scope (compEnvC scope cl C X.env) fp) E00 ifs c)
    (he : ∀ (s : Shared) (H : Hp) (C : Addr) (cl : List (Str × Addr)) (fp : List Addr), DE (X.blk s H scope (compEnvC scope cl C X.env) fp) E00 elt f) (hy : X.N[i]? = some y := by rfl) (hw : ∀ i ∈ ws, i ∈ own.map (·.2) := by decide) (hs : ∀ x, foldedSetIterable iter X.env x = pure x := by intro _; rfl) (hW : ∀ j ∈ [i], W j = true := by decide) :
    DS X E W (.Assign [.Name y py] (.ListComp elt [⟨tg, iter, ifs, 0⟩] scope pos) spos) (asgF (lcF fi g c f (own.map (·.2))) (gNameD i)) := by
  refine ⟨_, ps_setLc (g := canG X ws g) (tt := canT X E00 c) (te := canE X E00 f) hc hN hy hyl hsw hi.can ok (fun s H C cl fp => (hg s H C cl fp).can) (fun s H C cl fp => (ht s H C cl fp).can) (fun s H C cl fp => (he s H C cl fp).can) hs, fun ρ F P σ H Dn hl r h => ?_⟩
  refine asg_end (tg := .Name y py) (vs := [i]) hW (fun ρ F P σ H Q hl r h => lc_end hw hl r h) (fun ρ ρ' F P σ H v d n A Q hl r o e q => ?_) hl r h
  cases e
  have hlt : i < ρ.length := by rw [hl]; exact (List.getElem?_eq_some_iff.mp hy).1
  refine q _ F H ⟨List.length_set .., fun j hj => ?_⟩ Step.refl (RelX.put (B := []) (by rw [List.append_nil]; exact r) hlt o)
  rw [List.getElem?_set_ne (by simpa using fun z => hj (by simp [z]))]
end
end DL

namespace DL
open PySem PySem.Spec PyProof.Rows L2

theorem getS_some {ρ : Env'} {i : Nat} {x : D × Nat} (h : getS ρ i = some x) : ρ[i]? = some (some x) := by
  unfold getS at h
  split at h
  · rename_i y hy; cases h; exact hy
  · cases h
section
variable {K : PySem.W.Frag} {F P : AS} {H : Hp} {ρ : Env'} {σ : L2.St} {A B : List Addr}
theorem own1_list {n : Nat} {ds : List D} {v : V} (o : Own K F H (n + 1) (.list ds) v A) : ∃ a vs B, v = .ref a ∧ H a = some (.lst vs) ∧ A = a :: B ∧ AllOwn (Own K F H n) ds vs B := by
  rcases o with ⟨_, s, _⟩ | ⟨ds', a, vs, B, e, ev, e1, eA, l⟩ | ⟨_, _, _, e, _⟩ | ⟨_, _, _, e, _⟩
  · cases s
  · cases e; exact ⟨a, vs, B, ev, e1, eA, l⟩
  · cases e
  · cases e
/-- the list at a (at hand) is written; what else is at hand is frozen or kept -/
theorem eff_write {a : Addr} {vs us : List V} {C : List Addr} {F' : AS} (r : RelX K F P ρ σ H A) (ha : a ∈ A) (hH : H a = some (.lst vs)) (g : ∀ x, F x → F' x) (gf : ∀ x, F' x → F x ∨ x ∈ A) (hC : ∀ x ∈ C, x ∈ A) (nC : C.Nodup) (hF : ∀ x ∈ C, ¬ F' x) (na : ¬ F' a) (th : ∀ x ∈ A, H x ≠ none) :
    Eff F H A F' (upd H a (.lst us)) C := by
  refine ⟨fun x o q n => by rw [upd_ne fun e => n (by rw [e]; exact ha)]; exact q, g, fun x h => (gf x h).imp id .inr, fun x hx => ⟨.inr (hC x hx), hF x hx⟩, nC, fun x h => ?_, fun x ws q => by rw [upd_ne fun e => by rw [e, hH] at q; cases q]; exact q⟩
  rw [upd_ne fun e => na (by rw [← e]; exact h)]
  rcases gf x h with z | z
  · exact r.dom x (.inl z)
  · exact th x z
theorem AllOwn.append {Pr : D → V → List Addr → Prop} : ∀ {ds es : List D} {vs us : List V} {A B : List Addr}, AllOwn Pr ds vs A → AllOwn Pr es us B → AllOwn Pr (ds ++ es) (vs ++ us) (A ++ B)
  | _, _, _, _, _, _, .nil, s => s
  | _, _, _, _, _, _, .cons h t, s => by rw [List.append_assoc]; exact .cons h (AllOwn.append t s)
end

section
variable {X : Cx} {E : Exs} {e : Expr} {pos apos cpos : Pos}
/-! ### name.append(e) -/
def appD (x y : D × Nat) : Option (D × Nat) := match x with
  | (.list ds, n) => if n = 1 ∧ ds.length < line then some (.list (ds ++ [y.1]), 1) else if n = 2 ∧ ds.length < line ∧ (y.2 = 1 ∨ still y.1 = true) then some (.list (ds ++ [y.1]), 2) else none
  | _ => none
def isOwnL : Option (D × Nat) → Bool
  | some (.list _, _ + 1) => true
  | _ => false
def appendF (i : Nat) (f : Env' → Res (D × Nat × Env')) : Env' → Res (D × Nat × Env') := fun ρ => if isOwnL (getS ρ i) = true then f ρ >>= fun y => liftO ((getS y.2.2 i).bind fun x => appD x (y.1, y.2.1)) >>= fun x => .ok (.none, 0, y.2.2.set i (some x)) else .stuck
theorem isOwnL_of {x : Option (D × Nat)} (h : isOwnL x = true) : ∃ ds n, x = some (.list ds, n + 1) := by
  unfold isOwnL at h
  split at h
  · exact ⟨_, _, rfl⟩
  · cases h
theorem de_append (i : Nat) {x : Str} {p : Pos} {f : Env' → Res (D × Nat × Env')} (he : DE X E e f) (hN : X.N[i]? = some x := by rfl) (hv : Vis X.env.scope x := by first | exact Or.inl rfl | exact Or.inr (Or.inl rfl) | exact Or.inr (Or.inr rfl)) (hd : (x == ("__debug__" : Str)) = false := by decide) (hcd : (x == ("__classdict__" : Str)) = false := by decide)
    (hbase : attributeBase (.Name x p) "append" X.env (eval (.Name x p) X.env) = eval (.Name x p) X.env := by rfl)
    (hfew : ((backTo cpos (starEach (e :: []) X.env)).all (fun x => !x.1) && (backToKw cpos (keywordEach [] X.env)).all (fun x => x.1.isSome) && decide ((e :: []).length + ([] : List Keyword).length + (if ([] : List Keyword).isEmpty then 0 else 1) < 30)) = true := by rfl)
    (hline : (apos.endLine == cpos.line) = true := by rfl) (hs : starEach (e :: []) X.env = (false, eval e X.env) :: starEach [] X.env := by rfl) (hplain : (backTo cpos (starEach [] X.env)).any (·.1) = false := by rfl) :
    DE X E (.Call (.Attribute (.Name x p) "append" apos) [e] [] cpos) (appendF i f) := by
  obtain ⟨t, pe, qe⟩ := he
  refine ⟨_, pe_bm PySem.F.plainAttrs_list PySem.F.slot_list_append PySem.F.type_list_append mt_append (pe_var hN hv hd hcd) (pa_cons pe pa_nil hs) hbase hfew hline hs hplain, fun ρ F P σ H Q hl r h => ?_⟩
  unfold appendF at h
  by_cases hg0 : isOwnL (getS ρ i) = true
  case neg => rw [if_neg hg0] at h; exact h.elim
  rw [if_pos hg0] at h
  obtain ⟨ds0, m0, hg⟩ := isOwnL_of hg0
  obtain ⟨v, B, e1, o, _⟩ := r.slot (getS_some hg)
  obtain ⟨a, vs0, B0, rfl, hH0, _, _⟩ := own1_list o
  refine ⟨_, e1, .inl ⟨rfl, vs0, .inl (.inl hH0)⟩, qe ρ F P σ H _ hl r (h.bind.same fun y hy w H1 F1 A st r1 o1 => ?_)⟩
  cases hg1 : getS y.2.2 i with
  | none => rw [hg1] at hy; exact hy.elim
  | some x1 =>
  rw [hg1] at hy
  obtain ⟨d1, n1⟩ := x1
  simp only [Option.bind_some] at hy
  cases hap : appD (d1, n1) (y.1, y.2.1) with
  | none => rw [hap] at hy; exact hy.elim
  | some x' =>
  rw [hap] at hy
  simp only [liftO, bind_ok, post_ok] at hy
  cases d1 <;> try (simp only [appD] at hap; cases hap)
  rename_i ds
  obtain ⟨v', C, e2, o2, r2⟩ := r1.take (getS_some hg1)
  rw [e1] at e2
  cases e2
  have hAF : ∀ z ∈ C ++ A, ¬ F1 z ∧ ¬ P z := fun z hz => r2.2.2.2.elim fun w q => (q.2.2 z hz).2
  obtain ⟨nC, nA, nCA⟩ := List.nodup_append.mp r2.2.2.1
  have th : ∀ z ∈ C ++ A, H1 z ≠ none := fun z hz => (List.mem_append.mp hz).elim (o2.there z) (o1.there z)
  simp only [appD] at hap
  by_cases z1 : n1 = 1 ∧ ds.length < line
  · rw [if_pos z1] at hap
    cases hap
    obtain ⟨rfl, z⟩ := z1
    · obtain ⟨a', vs, B1, ea, hH, eC, l⟩ := own1_list o2
      cases ea
      obtain ⟨eB, lr⟩ := l.nil_of
      subst eB
      subst eC
      have ef := eff_write (us := vs ++ [w]) (C := [a]) (F' := fun x => F1 x ∨ x ∈ A) r2 (by simp) hH (fun x q => .inl q) (fun x q => q.imp id fun q => List.mem_append_right _ q) (fun x hx => List.mem_append_left _ hx) nC
        (fun x hx q => q.elim (hAF x (List.mem_append_left _ hx)).1 fun q => nCA x hx x q rfl) (fun q => q.elim (hAF a (by simp)).1 fun q => nCA a (by simp) a q rfl) th
      have g2 := ef.growF r2
      have r3 := ef.rel r2
      refine ⟨a, vs, w, rfl, rfl, hH, by rw [lr.length, line_eq]; exact z, ?_⟩
      have r4 := RelX.put' (A := [a]) (B := []) (i := i) (d := .list (ds ++ [y.1])) (n := 1) r3 (by first | exact e1) (.inr (.inl ⟨_, a, _, [], rfl, rfl, upd_same, rfl, AllOwn.of_rep ((lr.mono g2).append (.cons ?_ .nil))⟩))
      · rw [List.set_set] at r4
        exact hy _ _ _ [] (st.trans (ef.step r2)) r4 ⟨rfl, .non⟩
      · exact (o1.rep (F' := fun x => F1 x ∨ x ∈ A) (fun x q => .inl q) fun x q => .inr q).mono ⟨fun x q => ⟨q, upd_ne fun e => (q.elim (fun q => (hAF a (by simp)).1 (by rw [← e]; exact q)) fun q => nCA a (by simp) x q e.symm)⟩, ef.tups⟩
  · rw [if_neg z1] at hap
    by_cases z2 : n1 = 2 ∧ ds.length < line ∧ (y.2.1 = 1 ∨ still y.1 = true)
    · rw [if_pos z2] at hap
      cases hap
      obtain ⟨rfl, z⟩ := z2
      obtain ⟨a', vs, B1, ea, hH, eC, l⟩ := own1_list o2
      cases ea
      subst eC
      have ef := eff_write (us := vs ++ [w]) (C := (a :: B1) ++ A) (F' := F1) r2 (by simp) hH (fun x q => q) (fun x q => .inl q) (fun x hx => hx) r2.2.2.1 (fun x hx => (hAF x hx).1) (hAF a (by simp)).1 th
      have g2 := ef.growF r2
      have r3 := ef.rel r2
      refine ⟨a, vs, w, rfl, rfl, hH, by rw [l.length, line_eq]; exact z.1, ?_⟩
      have nB : ∀ x ∈ B1, x ≠ a := fun x hx e => (List.nodup_cons.mp nC).1 (by rw [← e]; exact hx)
      have o1' : Own X.K F1 (upd H1 a (.lst (vs ++ [w]))) 1 y.1 w A := by
        have q : Own X.K F1 H1 1 y.1 w A := by
          rcases z.2 with z2 | z2
          · rw [z2] at o1; exact o1
          · obtain ⟨eA, rp⟩ := own_still o1 z2
            subst eA
            exact Own.of_rep rp (.inr z2)
        exact q.mono g2 fun x hx => upd_ne fun e => nCA a (by simp) x hx e.symm
      have r4 := RelX.put' (A := (a :: B1) ++ A) (B := []) (i := i) (d := .list (ds ++ [y.1])) (n := 2) (by rw [List.append_nil]; exact r3) e1 (.inr (.inl ⟨_, a, _, B1 ++ (A ++ []), rfl, rfl, upd_same, by simp, (l.imp fun d v C' hC' o => o.mono g2 fun x hx => upd_ne (nB x (hC' x hx))).append (.cons o1' .nil)⟩))
      rw [List.set_set] at r4
      exact hy _ _ _ [] (st.trans (ef.step r2)) r4 ⟨rfl, .non⟩
    · rw [if_neg z2] at hap; cases hap
end
end DL

namespace DL
open PySem PySem.Spec PyProof.Rows L2

theorem RepL.erase {K : PySem.W.Frag} {F : AS} {H : Hp} : ∀ {ds : List D} {vs : List V} (i : Nat), RepL K F H ds vs → RepL K F H (ds.eraseIdx i) (vs.eraseIdx i)
  | _, _, _, .nil => by simp; exact .nil
  | _, _, 0, .cons _ t => t
  | _, _, i + 1, .cons h t => .cons h (RepL.erase i t)
theorem RepL.dropLast {K : PySem.W.Frag} {F : AS} {H : Hp} {ds : List D} {vs : List V} (l : RepL K F H ds vs) : RepL K F H ds.dropLast vs.dropLast := by
  rw [List.dropLast_eq_take, List.dropLast_eq_take, l.length]
  exact l.take _
theorem own1_rep {K : PySem.W.Frag} {F : AS} {H : Hp} {ds : List D} {v : V} {A : List Addr} (o : Own K F H 1 (.list ds) v A) : ∃ a vs, v = .ref a ∧ H a = some (.lst vs) ∧ RepL K F H ds vs := by
  obtain ⟨a, vs, B, e, hH, _, l⟩ := own1_list o
  exact ⟨a, vs, e, hH, l.nil_of.2⟩
section
variable {K : PySem.W.Frag} {F P : AS} {H : Hp} {ρ : Env'} {σ : L2.St} {A B : List Addr}
/-- a slot's frozen-item list is written in place, with what is at hand frozen -/
theorem slot_write {i : Nat} {ds es : List D} {vs us : List V} {a : Addr} {d : D} {n : Nat} {w : V} (r1 : RelX K F P ρ σ H A) (o1 : Own K F H n d w A) (hg : ρ[i]? = some (some (.list ds, 1))) (e1 : σ[i]? = some (some (.ref a)))
    (hv : H a = some (.lst vs)) (hr : ∀ F' H', Grow F H F' H' → Rep K F' H' d w → RepL K F' H' ds vs → RepL K F' H' es us) :
    ∃ F', Step F P H F' (upd H a (.lst us)) ∧ Rel K F' P (ρ.set i (some (.list es, 1))) σ (upd H a (.lst us)) ∧ Grow F H F' (upd H a (.lst us)) := by
  obtain ⟨v', C, e2, o2, r2⟩ := r1.take hg
  rw [e1] at e2
  cases e2
  have hAF : ∀ z ∈ C ++ A, ¬ F z ∧ ¬ P z := fun z hz => r2.2.2.2.elim fun w q => (q.2.2 z hz).2
  obtain ⟨nC, nA, nCA⟩ := List.nodup_append.mp r2.2.2.1
  have th : ∀ z ∈ C ++ A, H z ≠ none := fun z hz => (List.mem_append.mp hz).elim (o2.there z) (o1.there z)
  obtain ⟨a', vs', B1, ea, hH, eC, l⟩ := own1_list o2
  cases ea
  rw [hv] at hH
  cases hH
  obtain ⟨eB, lr⟩ := l.nil_of
  subst eB
  subst eC
  have ef := eff_write (us := us) (C := [a]) (F' := fun x => F x ∨ x ∈ A) r2 (by simp) hv (fun x q => .inl q) (fun x q => q.imp id fun q => List.mem_append_right _ q) (fun x hx => List.mem_append_left _ hx) nC
    (fun x hx q => q.elim (hAF x (List.mem_append_left _ hx)).1 fun q => nCA x hx x q rfl) (fun q => q.elim (hAF a (by simp)).1 fun q => nCA a (by simp) a q rfl) th
  have g2 := ef.growF r2
  have r3 := ef.rel r2
  have rw' : Rep K (fun x => F x ∨ x ∈ A) (upd H a (.lst us)) d w := (o1.rep (F' := fun x => F x ∨ x ∈ A) (fun x q => .inl q) fun x q => .inr q).mono ⟨fun x q => ⟨q, upd_ne fun e => (q.elim (fun q => (hAF a (by simp)).1 (by rw [← e]; exact q)) fun q => nCA a (by simp) x q e.symm)⟩, ef.tups⟩
  have r4 := RelX.put' (A := [a]) (B := []) (i := i) (d := .list es) (n := 1) r3 (by exact e1) (.inr (.inl ⟨_, a, _, [], rfl, rfl, upd_same, rfl, AllOwn.of_rep (hr _ _ g2 rw' (lr.mono g2))⟩))
  rw [List.set_set] at r4
  exact ⟨_, ef.step r2, r4, g2⟩
end
section
variable {X : Cx} {E : Exs} {e : Expr} {pos apos cpos : Pos}
/-! ### name.pop(e), name.pop() -/
def popD (x : D × Nat) (j : Int) : Option (D × (D × Nat)) := match x with
  | (.list ds, n) => if n = 1 ∧ ds.length ≤ line then (ixN ds.length j).bind fun k => (ds[k]?).map fun d => (d, (.list (ds.eraseIdx k), 1)) else none
  | _ => none
def popF (i : Nat) (f : Env' → Res (D × Nat × Env')) : Env' → Res (D × Nat × Env') := fun ρ => if isOwnL (getS ρ i) = true then f ρ >>= fun y => liftO ((getS y.2.2 i).bind fun x => (isI y.1).bind fun j => popD x j) >>= fun z => .ok (z.1, 0, y.2.2.set i (some z.2)) else .stuck
theorem de_pop (i : Nat) {x : Str} {p : Pos} {f : Env' → Res (D × Nat × Env')} (he : DE X E e f) (hN : X.N[i]? = some x := by rfl) (hv : Vis X.env.scope x := by first | exact Or.inl rfl | exact Or.inr (Or.inl rfl) | exact Or.inr (Or.inr rfl)) (hd : (x == ("__debug__" : Str)) = false := by decide) (hcd : (x == ("__classdict__" : Str)) = false := by decide)
    (hbase : attributeBase (.Name x p) "pop" X.env (eval (.Name x p) X.env) = eval (.Name x p) X.env := by rfl)
    (hfew : ((backTo cpos (starEach (e :: []) X.env)).all (fun x => !x.1) && (backToKw cpos (keywordEach [] X.env)).all (fun x => x.1.isSome) && decide ((e :: []).length + ([] : List Keyword).length + (if ([] : List Keyword).isEmpty then 0 else 1) < 30)) = true := by rfl)
    (hline : (apos.endLine == cpos.line) = true := by rfl) (hs : starEach (e :: []) X.env = (false, eval e X.env) :: starEach [] X.env := by rfl) (hplain : (backTo cpos (starEach [] X.env)).any (·.1) = false := by rfl) :
    DE X E (.Call (.Attribute (.Name x p) "pop" apos) [e] [] cpos) (popF i f) := by
  obtain ⟨t, pe, qe⟩ := he
  refine ⟨_, pe_bm PySem.F.plainAttrs_list PySem.F.slot_list_pop PySem.F.type_list_pop mt_popAt (pe_var hN hv hd hcd) (pa_cons pe pa_nil hs) hbase hfew hline hs hplain, fun ρ F P σ H Q hl r h => ?_⟩
  unfold popF at h
  by_cases hg0 : isOwnL (getS ρ i) = true
  case neg => rw [if_neg hg0] at h; exact h.elim
  rw [if_pos hg0] at h
  obtain ⟨ds0, m0, hg⟩ := isOwnL_of hg0
  obtain ⟨v, B, e1, o, _⟩ := r.slot (getS_some hg)
  obtain ⟨a, vs0, B0, rfl, hH0, _, _⟩ := own1_list o
  refine ⟨_, e1, .inl ⟨rfl, vs0, .inl (.inl hH0)⟩, qe ρ F P σ H _ hl r (h.bind.same fun y hy w H1 F1 A st r1 o1 => ?_)⟩
  cases hg1 : getS y.2.2 i with
  | none => rw [hg1] at hy; exact hy.elim
  | some x1 =>
  rw [hg1] at hy
  obtain ⟨d1, n1⟩ := x1
  obtain ⟨dy, ny, ρ1⟩ := y
  simp only [Option.bind_some] at hy
  cases dy <;> try exact hy.elim
  rename_i j
  simp only [isI, Option.bind_some] at hy
  cases hp : popD (d1, n1) j with
  | none => rw [hp] at hy; exact hy.elim
  | some z =>
  rw [hp] at hy
  simp only [liftO, bind_ok, post_ok] at hy
  cases d1 <;> try (simp only [popD] at hp; cases hp)
  rename_i ds
  simp only [popD] at hp
  by_cases z1 : n1 = 1 ∧ ds.length ≤ line
  · rw [if_pos z1] at hp
    obtain ⟨rfl, hz⟩ := z1
    cases hk : ixN ds.length j with
    | none => rw [hk] at hp; cases hp
    | some k =>
    rw [hk] at hp
    simp only [Option.bind_some] at hp
    cases hdk : ds[k]? with
    | none => rw [hdk] at hp; cases hp
    | some dk =>
    rw [hdk] at hp
    cases hp
    simp only at hg1 r1 o1 hy
    obtain ⟨v', C, e2, o2, _⟩ := r1.slot (getS_some hg1)
    rw [e1] at e2
    cases e2
    obtain ⟨a', vs, ea, hH, lr⟩ := own1_rep o2
    cases ea
    obtain ⟨k1, k2, k3, k4⟩ := ixN_seq hk
    obtain ⟨vk, hvk, rk⟩ := lr.get hdk
    obtain ⟨F2, st2, r2, g2⟩ := slot_write (es := ds.eraseIdx k) (us := vs.eraseIdx k) r1 o1 (getS_some hg1) e1 hH fun F' H' g rp l => l.erase k
    have eA := (own_still o1 rfl).1
    have hlen : (ds.length : Int) ≤ 16777216 := by have q : ds.length ≤ 16777216 := hz; omega
    refine ⟨a, vs, j, k, vk, rfl, ?_, hH, by omega, by omega, by rw [lr.length]; exact k1, hvk, hy vk _ F2 [] (st.trans st2) r2 ⟨rfl, rk.mono g2⟩⟩
    rw [own_int o1]
  · rw [if_neg z1] at hp; cases hp
def popLastD (x : D × Nat) : Option (D × (D × Nat)) := match x with
  | (.list ds, n) => if n = 1 then (ds[ds.length - 1]?).map fun d => (d, (.list ds.dropLast, 1)) else none
  | _ => none
def pop0F (i : Nat) : Env' → Res (D × Nat × Env') := fun ρ => liftO ((getS ρ i).bind popLastD) >>= fun z => .ok (z.1, 0, ρ.set i (some z.2))
theorem de_pop0 (i : Nat) {x : Str} {p : Pos} (hN : X.N[i]? = some x := by rfl) (hv : Vis X.env.scope x := by first | exact Or.inl rfl | exact Or.inr (Or.inl rfl) | exact Or.inr (Or.inr rfl)) (hd : (x == ("__debug__" : Str)) = false := by decide) (hcd : (x == ("__classdict__" : Str)) = false := by decide)
    (hbase : attributeBase (.Name x p) "pop" X.env (eval (.Name x p) X.env) = eval (.Name x p) X.env := by rfl) (hline : (apos.endLine == cpos.line) = true := by rfl) : DE X E (.Call (.Attribute (.Name x p) "pop" apos) [] [] cpos) (pop0F i) := by
  refine ⟨_, pe_bm0 PySem.F.plainAttrs_list PySem.F.slot_list_pop PySem.F.type_list_pop mt_pop (pe_var hN hv hd hcd) hbase hline, fun ρ F P σ H Q hl r h => ?_⟩
  unfold pop0F at h
  cases hg : getS ρ i with
  | none => rw [hg] at h; exact h.elim
  | some x1 =>
  rw [hg] at h
  obtain ⟨d1, n1⟩ := x1
  simp only [Option.bind_some] at h
  cases hp : popLastD (d1, n1) with
  | none => rw [hp] at h; exact h.elim
  | some z =>
  rw [hp] at h
  simp only [liftO, bind_ok, post_ok] at h
  cases d1 <;> try (simp only [popLastD] at hp; cases hp)
  rename_i ds
  simp only [popLastD] at hp
  by_cases z1 : n1 = 1
  · subst z1
    rw [if_pos rfl] at hp
    cases hdk : ds[ds.length - 1]? with
    | none => rw [hdk] at hp; cases hp
    | some dk =>
    rw [hdk] at hp
    cases hp
    obtain ⟨v', C, e2, o2, _⟩ := r.slot (getS_some hg)
    obtain ⟨a, vs, ea, hH, lr⟩ := own1_rep o2
    subst ea
    obtain ⟨vk, hvk, rk⟩ := lr.get hdk
    obtain ⟨F2, st2, r2, g2⟩ := slot_write (d := .none) (n := 0) (w := .non) (A := []) (es := ds.dropLast) (us := vs.dropLast) r ⟨rfl, .non⟩ (getS_some hg) e2 hH fun F' H' g rp l => l.dropLast
    exact ⟨_, e2, .inl ⟨rfl, vs, .inl (.inl hH)⟩, a, vs, vk, rfl, rfl, hH, by rw [lr.length]; exact hvk, h vk _ F2 [] st2 r2 ⟨rfl, rk.mono g2⟩⟩
  · rw [if_neg z1] at hp; cases hp
/-! ### name[k] = value -/
def setD (x : D × Nat) (j : Int) (y : D × Nat) : Option (D × Nat) := match x with
  | (.list ds, n) => (ixN ds.length j).bind fun k => if n = 1 then some (.list (ds.set k y.1), 1) else none
  | _ => none
def gSetD (i : Nat) (fi : Env' → Option (D × Nat)) : D → Nat → Env' → Res Env' := fun d n ρ => liftO ((getS ρ i).bind fun x => (fi ρ).bind fun k => (isI k.1).bind fun j => setD x j (d, n)) >>= fun x => .ok (ρ.set i (some x))
theorem dg_sub (i : Nat) {x : Str} {p : Pos} {ix : Expr} {fi : Env' → Option (D × Nat)} (hx : DP X ix fi) (hN : X.N[i]? = some x := by rfl) (hv : Vis X.env.scope x := by first | exact Or.inl rfl | exact Or.inr (Or.inl rfl) | exact Or.inr (Or.inr rfl)) (hd : (x == ("__debug__" : Str)) = false := by decide) (hcd : (x == ("__classdict__" : Str)) = false := by decide)
    (ha : ∀ v, assign (.Subscript (.Name x p) ix pos) X.env v = (do
      let ov ← holding [v] (eval (.Name x p) X.env)
      let iv ← holding [v, ov] (eval ix X.env)
      standAt pos
      holding [v, ov, iv] (setItem ov iv v)
      release [v, ov, iv] []) := by intro _; rfl) : DG X (.Subscript (.Name x p) ix pos) [] (gSetD i fi) := by
  obtain ⟨t, pe, qe⟩ := hx
  refine ⟨_, pg_sub (pe_var hN hv hd hcd) pe set_list ha, fun ρ ρ' F P σ H v d n A Q hl r o e q => ?_⟩
  unfold gSetD at e
  cases hg : getS ρ i with
  | none => rw [hg] at e; cases e
  | some x1 =>
  rw [hg] at e
  simp only [Option.bind_some] at e
  cases hf : fi ρ with
  | none => rw [hf] at e; cases e
  | some k0 =>
  rw [hf] at e
  obtain ⟨dk, nk⟩ := k0
  simp only [Option.bind_some] at e
  cases dk <;> try (cases e; done)
  rename_i j
  simp only [isI, Option.bind_some] at e
  cases hp : setD x1 j (d, n) with
  | none => rw [hp] at e; cases e
  | some x' =>
  rw [hp] at e
  simp only [liftO, bind_ok] at e
  cases e
  obtain ⟨d1, n1⟩ := x1
  cases d1 <;> try (simp only [setD] at hp; cases hp)
  rename_i ds
  simp only [setD] at hp
  cases hk : ixN ds.length j with
  | none => rw [hk] at hp; cases hp
  | some k =>
  rw [hk] at hp
  simp only [Option.bind_some] at hp
  by_cases z1 : n1 = 1
  · subst z1
    rw [if_pos rfl] at hp
    cases hp
    obtain ⟨v', C, e2, o2, _⟩ := r.slot (getS_some hg)
    obtain ⟨a, vs, ea, hH, lr⟩ := own1_rep o2
    subst ea
    obtain ⟨F2, st2, r2, g2⟩ := slot_write (es := ds.set k d) (us := vs.set k v) r o (getS_some hg) e2 hH fun F' H' g rp l => l.set k rp
    refine ⟨_, e2, qe ρ F P σ H _ (.int j) nk hl r.drop hf fun u C' o' => ?_⟩
    exact ⟨a, vs, j, k, rfl, own_int o', hH, by rw [lr.length]; exact hk, q σ F2 _ ⟨rfl, fun _ _ => rfl⟩ st2 r2⟩
  · rw [if_neg z1] at hp; cases hp
/-! ### name[k].append(e) -/
theorem own1_upd {K : PySem.W.Frag} {F F' : AS} {H H' : Hp} {a : Addr} {us us' : List V} {es' : List D} (hH : H a = some (.lst us)) (g : Grow F H F' H') (h' : H' a = some (.lst us')) (kp : ∀ x, H x ≠ none → x ≠ a → H' x = H x) (lr : RepL K F' H' es' us') :
    ∀ {ds : List D} {vs : List V} {B : List Addr} {k : Nat} {es : List D}, AllOwn (Own K F H 1) ds vs B → B.Nodup → vs[k]? = some (.ref a) → ds[k]? = some (.list es) → AllOwn (Own K F' H' 1) (ds.set k (.list es')) vs B ∧ a ∈ B
  | _, _, _, _, _, .nil, _, e, _ => by simp at e
  | _, _, _, 0, es, .cons (A := A) (B := B) o t, nd, e, e' => by
    simp only [List.getElem?_cons_zero, Option.some.injEq] at e e'
    subst e e'
    obtain ⟨nA, nB, nAB⟩ := List.nodup_append.mp nd
    obtain ⟨a', vs', B1, ea, hH', eA, l⟩ := own1_list o
    cases ea
    obtain ⟨eB, _⟩ := l.nil_of
    subst eB
    subst eA
    have th := AllOwn.there (fun o => o.there) t
    exact ⟨AllOwn.cons (.inr (.inl ⟨_, a, us', [], rfl, rfl, h', rfl, AllOwn.of_rep lr⟩)) (t.imp fun d v C hC o => o.mono g fun x hx => kp x (th x (hC x hx)) fun q => nAB a (by simp) x (hC x hx) q.symm), by simp⟩
  | _, _, _, k + 1, es, .cons (A := A) (B := B) o t, nd, e, e' => by
    simp only [List.getElem?_cons_succ] at e e'
    obtain ⟨nA, nB, nAB⟩ := List.nodup_append.mp nd
    obtain ⟨h1, h2⟩ := own1_upd hH g h' kp lr t nB e e'
    exact ⟨AllOwn.cons (o.mono g fun x hx => kp x (o.there x hx) fun q => nAB x hx a h2 q) h1, List.mem_append_right _ h2⟩
def app2D (x : D × Nat) (j : Int) (y : D × Nat) : Option (D × Nat) := match x with
  | (.list ds, n) => if n = 2 ∧ (y.2 = 0 ∨ still y.1 = true) then (ixN ds.length j).bind fun k => match ds[k]? with
    | some (.list es) => if es.length < line then some (.list (ds.set k (.list (es ++ [y.1]))), 2) else none
    | _ => none
    else none
  | _ => none
def app2F (i : Nat) (fk fe : Env' → Option (D × Nat)) : Env' → Res (D × Nat × Env') := fun ρ => liftO ((getS ρ i).bind fun x => (fk ρ).bind fun k => (isI k.1).bind fun j => (fe ρ).bind fun y => app2D x j y) >>= fun x => .ok (.none, 0, ρ.set i (some x))
theorem de_append2 (i : Nat) {x : Str} {p p2 : Pos} {ix : Expr} {fk fe : Env' → Option (D × Nat)} (hx : DP X ix fk) (he : DP X e fe) (hix : PlainIx ix := by exact fun _ _ => rfl) (hN : X.N[i]? = some x := by rfl) (hv : Vis X.env.scope x := by first | exact Or.inl rfl | exact Or.inr (Or.inl rfl) | exact Or.inr (Or.inr rfl)) (hd : (x == ("__debug__" : Str)) = false := by decide) (hcd : (x == ("__classdict__" : Str)) = false := by decide)
    (hbase : attributeBase (.Subscript (.Name x p) ix p2) "append" X.env (eval (.Subscript (.Name x p) ix p2) X.env) = eval (.Subscript (.Name x p) ix p2) X.env := by rfl)
    (hfew : ((backTo cpos (starEach (e :: []) X.env)).all (fun x => !x.1) && (backToKw cpos (keywordEach [] X.env)).all (fun x => x.1.isSome) && decide ((e :: []).length + ([] : List Keyword).length + (if ([] : List Keyword).isEmpty then 0 else 1) < 30)) = true := by rfl)
    (hline : (apos.endLine == cpos.line) = true := by rfl) (hs : starEach (e :: []) X.env = (false, eval e X.env) :: starEach [] X.env := by rfl) (hplain : (backTo cpos (starEach [] X.env)).any (·.1) = false := by rfl) :
    DE X E (.Call (.Attribute (.Subscript (.Name x p) ix p2) "append" apos) [e] [] cpos) (app2F i fk fe) := by
  obtain ⟨tk, pk, qk⟩ := hx
  obtain ⟨te, pe, qe⟩ := he
  refine ⟨_, pe_bm PySem.F.plainAttrs_list PySem.F.slot_list_append PySem.F.type_list_append mt_append (pe_ix ix_list (pe_var hN hv hd hcd) pk hix) (pa_cons pe pa_nil hs) hbase hfew hline hs hplain, fun ρ F P σ H Q hl r h => ?_⟩
  unfold app2F at h
  cases hg : getS ρ i with
  | none => rw [hg] at h; exact h.elim
  | some x1 =>
  rw [hg] at h
  simp only [Option.bind_some] at h
  cases hf : fk ρ with
  | none => rw [hf] at h; exact h.elim
  | some k0 =>
  rw [hf] at h
  obtain ⟨dk, nk⟩ := k0
  simp only [Option.bind_some] at h
  cases dk <;> try exact h.elim
  rename_i j
  simp only [isI, Option.bind_some] at h
  cases hfe : fe ρ with
  | none => rw [hfe] at h; exact h.elim
  | some y =>
  rw [hfe] at h
  simp only [Option.bind_some] at h
  cases hp : app2D x1 j y with
  | none => rw [hp] at h; exact h.elim
  | some x' =>
  rw [hp] at h
  simp only [liftO, bind_ok, post_ok] at h
  obtain ⟨d1, n1⟩ := x1
  cases d1 <;> try (simp only [app2D] at hp; cases hp)
  rename_i ds
  simp only [app2D] at hp
  by_cases z1 : n1 = 2 ∧ (y.2 = 0 ∨ still y.1 = true)
  case neg => rw [if_neg z1] at hp; cases hp
  rw [if_pos z1] at hp
  obtain ⟨rfl, zy⟩ := z1
  cases hk : ixN ds.length j with
  | none => rw [hk] at hp; cases hp
  | some k =>
  rw [hk] at hp
  simp only [Option.bind_some] at hp
  split at hp
  case h_2 => cases hp
  rename_i es hes
  by_cases zl : es.length < line
  case neg => rw [if_neg zl] at hp; cases hp
  rw [if_pos zl] at hp
  cases hp
  obtain ⟨v, B, e1, o, r2⟩ := r.take (getS_some hg)
  obtain ⟨a, vs, B1, rfl, hH, eB, l⟩ := own1_list o
  subst eB
  obtain ⟨vk, C, hvk, ok, hC⟩ := l.get hes
  obtain ⟨b, us, C1, rfl, hHb, eC, lb⟩ := own1_list ok
  obtain ⟨eC1, lbr⟩ := lb.nil_of
  subst eC1
  subst eC
  have hAF : ∀ z ∈ (a :: B1) ++ [], ¬ F z ∧ ¬ P z := fun z hz => r2.2.2.2.elim fun w q => (q.2.2 z hz).2
  have nd : (a :: B1).Nodup := by have := r2.2.2.1; rw [List.append_nil] at this; exact this
  have hbB : b ∈ B1 := hC b (by simp)
  have hba : b ≠ a := fun q => (List.nodup_cons.mp nd).1 (by rw [← q]; exact hbB)
  have th : ∀ z ∈ (a :: B1) ++ [], H z ≠ none := fun z hz => o.there z (by rw [List.append_nil] at hz; exact hz)
  refine ⟨_, e1, qk ρ F P σ H _ _ nk hl r hf fun u C' o' => ?_⟩
  have hat : atI vs j = some (.ref b) := by
    unfold atI
    rw [l.length, hk]
    exact hvk
  refine ⟨a, vs, j, .ref b, rfl, own_int o', .inl (.inl hH), hat, .inl ⟨rfl, us, .inl (.inl hHb)⟩, qe ρ F P σ H _ y.1 y.2 hl r hfe fun w A' ow => ?_⟩
  have rpw := (ow.still zy).2
  have ef := eff_write (us := us ++ [w]) (C := (a :: B1) ++ []) (F' := F) r2 (a := b) (by simp [hbB]) hHb (fun x q => q) (fun x q => .inl q) (fun x hx => hx) r2.2.2.1 (fun x hx => (hAF x hx).1) (hAF b (by simp [hbB])).1 th
  have g2 := ef.growF r2
  have r3 := ef.rel r2
  have lr := (lbr.append (.cons rpw .nil)).mono g2
  obtain ⟨al, _⟩ := own1_upd (us' := us ++ [w]) hHb g2 upd_same (fun x hx hn => upd_ne hn) lr l (List.nodup_cons.mp nd).2 hvk hes
  have r4 := RelX.put' (A := a :: B1) (B := []) (i := i) (d := .list (ds.set k (.list (es ++ [y.1])))) (n := 2) r3 e1 (.inr (.inl ⟨_, a, vs, B1, rfl, rfl, (upd_ne hba.symm).trans hH, rfl, al⟩))
  rw [List.set_set] at r4
  exact ⟨b, us, w, rfl, rfl, hHb, by rw [lbr.length, line_eq]; exact zl, h _ _ F [] (ef.step r2) r4 ⟨rfl, .non⟩⟩
end
end DL

namespace DL
open PySem PySem.Spec PyProof.Rows L2

/-! ### what a def promises: its value is a function of its arguments' trees -/
def SpD (K : PySem.W.Frag) (mg : Str → Option Value) (k : Nat) (g : List D → Res (D × Nat)) : Sp := fun vs H Q E => ∃ (ds : List D) (F : AS), ds.length = k ∧ RepL K F H ds vs ∧ (∀ a, F a → H a ≠ none) ∧ match g ds with
  | .ok (d, n) => ∀ v H' F' A, Alloc F H F' H' A → Own K F' H' n d v A → Q v H'
  | .exc x _ => ∀ cls dx H' F', Alloc F H F' H' [] → ExRep K mg F' H' x cls dx → E cls dx H'
  | .stuck => False
/-- .. and it changes its first argument, a tree owned to depth m -/
def SpI (K : PySem.W.Frag) (k m : Nat) (g : List D → Res ((D × Nat) × D)) : Sp := fun vs H Q _ => ∃ (d0 : D) (v0 : V) (ds : List D) (vr : List V) (F : AS) (A0 : List Addr), vs = v0 :: vr ∧ ds.length = k ∧ Own K F H m d0 v0 A0 ∧ A0.Nodup ∧ (∀ a ∈ A0, ¬ F a) ∧ RepL K F H ds vr ∧ (∀ a, F a → H a ≠ none) ∧ match g (d0 :: ds) with
  | .ok ((d, n), d1) => ∀ v H' F' A A1, Eff F H A0 F' H' (A1 ++ A) → Own K F' H' m d1 v0 A1 → Own K F' H' n d v A → Q v H'
  | _ => False

section
variable {X : Cx} {E : Exs} {e : Expr} {es : List Expr} {pos p : Pos} {x : Str}
def callR (r : Res (D × Nat)) (ρ : Env') : Res (D × Nat × Env') := match r with
  | .ok (d, n) => .ok (d, n, ρ)
  | .exc x _ => .exc x ρ
  | .stuck => .stuck
variable {CX : CXT} {k : Nat} {f : Addr} {fd : FuncData} {ps : List Str}
theorem de_call {E1 : XK} {n : Nat} {g : List D → Res (D × Nat)} {fa : Env' → Res (List D × Env')} (G : FnOk X.prog X.w X.K X.mg X.base CX k f fd ps (SpD X.K X.mg n g)) (hr : Room k X.A) (hm : X.mg x = some (.ref f)) (hk : PySem.W.keepIn X.K (.ref f) = true) (hb : Binds X.K fd ps [])
    (hx : Passes CX X E1) (ha : DA X (fun _ => E1) (e :: es) fa) (hg : Gl X x := by rfl) (hdb : (x == ("__debug__" : Str)) = false := by decide) (he : starEach (e :: es) X.env = (false, eval e X.env) :: starEach es X.env := by rfl) (hpl : (backTo pos (starEach es X.env)).any (·.1) = false := by rfl) :
    DE X (fun _ => E1) (.Call (.Name x p) (e :: es) [] pos) fun ρ => fa ρ >>= fun r => if r.1.length = n then callR (g r.1) r.2 else .stuck := by
  obtain ⟨t, pa, qa⟩ := ha
  refine ⟨_, pe_call G hr hg hm hk hb .nil hx pa hdb he hpl, fun ρ F P σ H Q hl r h => ?_⟩
  refine qa ρ F P σ H _ hl r ?_
  cases hfa : fa ρ with
  | stuck => rw [hfa] at h; exact h.elim
  | exc y z => rw [hfa] at h; exact h
  | ok q =>
  rw [hfa] at h
  intro vs H1 F1 st r1 l
  simp only [bind_ok] at h
  by_cases hlen : q.1.length = n
  case neg => rw [if_neg hlen] at h; exact h.elim
  rw [if_pos hlen] at h
  refine ⟨q.1, F1, hlen, by rw [List.append_nil]; exact l, fun a z => r1.dom a (.inl z), ?_⟩
  cases hgv : g q.1 with
  | stuck => rw [hgv] at h; exact h.elim
  | exc y z =>
    rw [hgv] at h
    intro cls dx H' F' al ex
    exact h cls dx H' F' (st.trans (al.step r1)) (al.rel r1) ex
  | ok c =>
    rw [hgv] at h
    intro v H' F' A al o
    exact h v H' F' A (st.trans (al.step r1)) (al.rel r1) o
/-- the call's end at the slot -/
def endI (i m : Nat) (ρ : Env') (r : Res ((D × Nat) × D)) : Res (D × Nat × Env') := match r with
  | .ok ((d, n), d1) => .ok (d, n, ρ.set i (some (d1, m)))
  | _ => .stuck
def callIF (i n m : Nat) (g : List D → Res ((D × Nat) × D)) (fa : Env' → Res (List D × Env')) : Env' → Res (D × Nat × Env') := fun ρ => liftO (getS ρ i) >>= fun _ => fa ρ >>= fun r => liftO (getS r.2 i) >>= fun x => if x.2 = m ∧ r.1.length = n then endI i m r.2 (g (x.1 :: r.1)) else .stuck
/-- f(name, ..), f changes what stands at the name -/
theorem de_callI {E1 : XK} (i : Nat) {y : Str} {py : Pos} {n m : Nat} {g : List D → Res ((D × Nat) × D)} {fa : Env' → Res (List D × Env')} (G : FnOk X.prog X.w X.K X.mg X.base CX k f fd ps (SpI X.K n m g)) (hr : Room k X.A) (hm : X.mg x = some (.ref f)) (hk : PySem.W.keepIn X.K (.ref f) = true) (hb : Binds X.K fd ps [])
    (hx : Passes CX X E1) (ha : DA X (fun _ => E1) es fa) (hN : X.N[i]? = some y := by rfl) (hv : Vis X.env.scope y := by first | exact Or.inl rfl | exact Or.inr (Or.inl rfl) | exact Or.inr (Or.inr rfl)) (hd : (y == ("__debug__" : Str)) = false := by decide) (hcd : (y == ("__classdict__" : Str)) = false := by decide)
    (hg : Gl X x := by rfl) (hdb : (x == ("__debug__" : Str)) = false := by decide) (he : starEach (.Name y py :: es) X.env = (false, eval (.Name y py) X.env) :: starEach es X.env := by rfl) (hpl : (backTo pos (starEach es X.env)).any (·.1) = false := by rfl) :
    DE X (fun _ => E1) (.Call (.Name x p) (.Name y py :: es) [] pos) (callIF i n m g fa) := by
  obtain ⟨t, pa, qa⟩ := ha
  refine ⟨_, pe_call G hr hg hm hk hb .nil hx (pa_cons (pe_var hN hv hd hcd) pa he) hdb he hpl, fun ρ F P σ H Q hl r h => ?_⟩
  unfold callIF at h
  cases hg0 : getS ρ i with
  | none => rw [hg0] at h; exact h.elim
  | some x00 =>
  rw [hg0] at h
  simp only [liftO, bind_ok] at h
  obtain ⟨v, _, e1, _⟩ := r.slot (getS_some hg0)
  refine ⟨v, e1, qa ρ F P σ H _ hl r ?_⟩
  cases hfa : fa ρ with
  | stuck => rw [hfa] at h; exact h.elim
  | exc y z => rw [hfa] at h; exact h
  | ok q =>
  rw [hfa] at h
  simp only [bind_ok] at h
  cases hg1 : getS q.2 i with
  | none => rw [hg1] at h; exact h.elim
  | some x0 =>
  rw [hg1] at h
  simp only [bind_ok] at h
  by_cases hlen : x0.2 = m ∧ q.1.length = n
  case neg => rw [if_neg hlen] at h; exact h.elim
  rw [if_pos hlen] at h
  intro vs H1 F1 st r1 l
  obtain ⟨v', B, e2, o2, r2⟩ := r1.take (getS_some hg1)
  rw [e1] at e2
  cases e2
  rw [List.append_nil] at r2
  have hAF : ∀ z ∈ B, ¬ F1 z ∧ ¬ P z := fun z hz => r2.2.2.2.elim fun w q => (q.2.2 z hz).2
  rw [hlen.1] at o2
  refine ⟨x0.1, v, q.1, vs, F1, B, by rw [List.append_nil], hlen.2, o2, r2.2.2.1, fun a ha => (hAF a ha).1, l, fun a z => r1.dom a (.inl z), ?_⟩
  cases hgv : g (x0.1 :: q.1) with
  | stuck => rw [hgv] at h; exact h.elim
  | exc y z => rw [hgv] at h; exact h.elim
  | ok c =>
    obtain ⟨⟨d, nn⟩, d1⟩ := c
    rw [hgv] at h
    intro u H' F' A A1 ef o1 o
    have r3 := (ef.rel r2).put' e1 o1
    rw [List.set_set] at r3
    exact h u H' F' A (st.trans (ef.step r2)) r3 o
end

/-! ### a def's body -/
def env0 (n : Nat) (ds : List (D × Nat)) : Env' := ds.map some ++ List.replicate (n - ds.length) none
/-- what a body hands back -/
def endP (r : Res (Fl × Env')) : Res (D × Nat) := match r with
  | .ok (.nx, _) => .ok (.none, 0)
  | .ok (.rt d n, _) => .ok (d, n)
  | _ => .stuck
def runP (n : Nat) (fb : Env' → Res (Fl × Env')) : List D → Res (D × Nat) := fun ds => endP (fb (env0 n (ds.map fun d => (d, 0))))
def endM (m : Nat) (c : D × Nat) (x : Option (D × Nat)) : Res ((D × Nat) × D) := match x with
  | some (d1, m') => if m' = m then .ok (c, d1) else .stuck
  | none => .stuck
def endIO (m : Nat) (r : Res (Fl × Env')) : Res ((D × Nat) × D) := match r with
  | .ok (.nx, ρ) => endM m (.none, 0) (getS ρ 0)
  | .ok (.rt d n, ρ) => endM m (d, n) (getS ρ 0)
  | _ => .stuck
def runI (n m : Nat) (fb : Env' → Res (Fl × Env')) : List D → Res ((D × Nat) × D) := fun ds => match ds with
  | d0 :: r => endIO m (fb (env0 n ((d0, m) :: r.map fun d => (d, 0))))
  | [] => .stuck
section
variable {K : PySem.W.Frag} {F P : AS} {H : Hp}
theorem env0_get0 {n : Nat} {ds : List (D × Nat)} {i : Nat} {x : D × Nat} (h : (env0 n ds)[i]? = some (some x)) : ds[i]? = some x := by
  unfold env0 at h
  by_cases hi : i < (ds.map some).length
  · rw [List.getElem?_append_left hi, List.getElem?_map] at h
    cases e : ds[i]? with
    | none => rw [e] at h; cases h
    | some y => rw [e] at h; cases h; rfl
  · rw [List.getElem?_append_right (by omega), List.getElem?_replicate] at h
    split at h <;> cases h
theorem start_get {N : List Str} {vs : List V} {i : Nat} {v : V} (h : vs[i]? = some v) : (L2.start N vs)[i]? = some (some v) := by
  unfold L2.start
  rw [List.getElem?_append_left (by rw [List.length_map]; exact (List.getElem?_eq_some_iff.mp h).1), List.getElem?_map, h]
  rfl
theorem rel_start {N : List Str} {ds : List D} {vs : List V} (l : RepL K F H ds vs) (hd : ∀ a, F a ∨ P a → H a ≠ none) (hn : ds.length ≤ N.length) : Rel K F P (env0 N.length (ds.map fun d => (d, 0))) (L2.start N vs) H := by
  refine ⟨?_, hd, List.nodup_nil, fun _ => none, fun i d n h => ?_, fun a i e => (by cases e), fun a ha => (by cases ha)⟩
  · simp [env0, L2.start, l.length]
  · have h := env0_get0 h
    rw [List.getElem?_map] at h
    cases e : ds[i]? with
    | none => rw [e] at h; cases h
    | some d' =>
      rw [e] at h
      cases h
      obtain ⟨v, hv, rp⟩ := l.get e
      exact ⟨v, [], start_get hv, ⟨rfl, rp⟩, List.nodup_nil, fun a ha => by cases ha⟩
theorem rel_startI {N : List Str} {d0 : D} {v0 : V} {m : Nat} {A0 : List Addr} {ds : List D} {vs : List V} (o : Own K F H m d0 v0 A0) (nd : A0.Nodup) (hA : ∀ a ∈ A0, ¬ F a ∧ ¬ P a) (l : RepL K F H ds vs) (hd : ∀ a, F a ∨ P a → H a ≠ none) (hn : ds.length + 1 ≤ N.length) :
    Rel K F P (env0 N.length ((d0, m) :: ds.map fun d => (d, 0))) (L2.start N (v0 :: vs)) H := by
  refine ⟨?_, hd, List.nodup_nil, fun a => if a ∈ A0 then some 0 else none, fun i d n h => ?_, fun a i e => ?_, fun a ha => by cases ha⟩
  · simp [env0, L2.start, l.length]
  · have h := env0_get0 h
    cases i with
    | zero =>
      cases h
      exact ⟨v0, A0, start_get rfl, o, nd, fun a ha => by show (if a ∈ A0 then some 0 else none) = some 0; rw [if_pos ha]⟩
    | succ i =>
      rw [List.getElem?_cons_succ, List.getElem?_map] at h
      cases e : ds[i]? with
      | none => rw [e] at h; cases h
      | some d' =>
        rw [e] at h
        cases h
        obtain ⟨v, hv, rp⟩ := l.get e
        exact ⟨v, [], start_get (by rw [List.getElem?_cons_succ]; exact hv), ⟨rfl, rp⟩, List.nodup_nil, fun a ha => by cases ha⟩
  · have e : (if a ∈ A0 then some 0 else none) = some i := e
    by_cases ha : a ∈ A0
    · exact ⟨(hA a ha).1, (hA a ha).2, o.there a ha⟩
    · rw [if_neg ha] at e; cases e
theorem env0_len {N : Nat} {ds : List (D × Nat)} (h : ds.length ≤ N) : (env0 N ds).length = N := by
  simp only [env0, List.length_append, List.length_map, List.length_replicate]
  omega
end
section
variable {P : Program} {w : World} {K : PySem.W.Frag} {mg : Str → Option Value} {base : Heap}
abbrev bodyX (P : Program) (w : World) (K : PySem.W.Frag) (mg : Str → Option Value) (base : Heap) (N : List Str) (qual : Str) (st : Stmt) (f : Addr) (cdv : Value) (A : Around) (outer : List Env) (s : Shared) (H : Hp) (E : XK) : Cx :=
  (cxOf CX0 P w K mg base N qual (defScope st) f cdv A outer s H E).nox
abbrev FnP (K : PySem.W.Frag) (x qual : Str) (st : Stmt) (f : Addr) (fd : FuncData) : Prop := FunD K x qual (defArgs st) (defBody st) (defScope st) [] [] f fd
theorem fn_pure {x qual : Str} {st : Stmt} {f : Addr} {fd : FuncData} {N ps : List Str} {k : Nat} {fb : Env' → Res (Fl × Env')} (Fn : FnP K x qual st f fd) (S : FnScope N ps (defScope st)) (hn : ps.length ≤ N.length)
    (hb : ∀ (cdv : Value) (A : Around) (outer : List Env) (s : Shared) (H : Hp) (E : XK), Room k (A.deeper (envOfC qual (defScope st) s.heap.objs.size f cdv)) → DSs (bodyX P w K mg base N qual st f cdv A outer s H E) E00 (fun _ => true) (defBody st) fb) :
    FnOk P w K mg base CX0 (k + 1) f fd ps (SpD K mg ps.length (runP N.length fb)) := by
  refine Fn.ok S (fun vs H Q E h => ?_) (fun cdv A outer s H vs Q E hr h => ?_)
  · obtain ⟨ds, F, hl, l, _⟩ := h
    rw [l.length, hl]
  obtain ⟨ds, F, hl, l, hd, h⟩ := h
  obtain ⟨t, p, q⟩ := hb cdv A outer s H E hr
  have r0 : Rel K F (fun a => H a ≠ none) (env0 N.length (ds.map fun d => (d, 0))) (L2.start N vs) H := rel_start l (fun a z => z.elim (hd a) id) (by omega)
  refine ⟨t, PSs.nox p, q (env0 N.length (ds.map fun d => (d, 0))) F (fun a => H a ≠ none) (L2.start N vs) H _ (env0_len (by rw [List.length_map]; omega)) r0 ?_⟩
  have toE : ∀ {F' : AS} {H' : Hp} {ρ' : Env'} {σ' : L2.St} {A : List Addr}, Step F (fun a => H a ≠ none) H F' H' → RelX K F' (fun a => H a ≠ none) ρ' σ' H' A → Alloc F H F' H' A := fun {F' H' ρ' σ' A} st r =>
    ⟨fun a o e _ => (st.prot a (by rw [e]; exact fun z => (by cases z))).trans e, fun a z => (st.grow.at_ a z).1, fun a z => (st.fresh a z).imp id fun w => .inl (Classical.not_not.mp w), fun a ha => r.2.2.2.elim fun w q => ⟨.inl (Classical.not_not.mp (q.2.2 a ha).2.2), (q.2.2 a ha).2.1⟩, r.2.2.1, fun a z => r.dom a (.inl z), st.grow.tups⟩
  unfold runP at h
  cases hf : fb (env0 N.length (ds.map fun d => (d, 0))) with
  | stuck => rw [hf] at h; exact h.elim
  | exc y z =>
    rw [hf] at h
    exact h.elim
  | ok y =>
    obtain ⟨fl, ρ1⟩ := y
    rw [hf] at h
    cases fl with
    | nx => exact fun σ' H' F' _ st r1 _ => h _ H' F' [] (toE st r1) ⟨rfl, .non⟩
    | bk => exact h.elim
    | ct => exact h.elim
    | rt d n => exact fun σ' v H' F' A _ st r1 o => h v H' F' A (toE st r1) o
theorem fn_io {x qual : Str} {st : Stmt} {f : Addr} {fd : FuncData} {N : List Str} {p0 : Str} {pr : List Str} {k m : Nat} {fb : Env' → Res (Fl × Env')} (Fn : FnP K x qual st f fd) (S : FnScope N (p0 :: pr) (defScope st)) (hn : (p0 :: pr).length ≤ N.length)
    (hb : ∀ (cdv : Value) (A : Around) (outer : List Env) (s : Shared) (H : Hp) (E : XK), Room k (A.deeper (envOfC qual (defScope st) s.heap.objs.size f cdv)) → DSs (bodyX P w K mg base N qual st f cdv A outer s H E) E00 (fun i => i != 0) (defBody st) fb) :
    FnOk P w K mg base CX0 (k + 1) f fd (p0 :: pr) (SpI K pr.length m (runI N.length m fb)) := by
  refine Fn.ok S (fun vs H Q E h => ?_) (fun cdv A outer s H vs Q E hr h => ?_)
  · obtain ⟨d0, v0, ds, vr, F, A0, rfl, hl, o, nd, hA, l, _⟩ := h
    rw [List.length_cons, List.length_cons, l.length, hl]
  obtain ⟨d0, v0, ds, vr, F, A0, rfl, hl, o, nd, hA, l, hd, h⟩ := h
  obtain ⟨t, p, q⟩ := hb cdv A outer s H E hr
  have hn' : ds.length + 1 ≤ N.length := by rw [hl]; exact hn
  have r0 : Rel K F (fun a => H a ≠ none ∧ a ∉ A0) (env0 N.length ((d0, m) :: ds.map fun d => (d, 0))) (L2.start N (v0 :: vr)) H := rel_startI o nd (fun a ha => ⟨hA a ha, fun z => z.2 ha⟩) l (fun a z => z.elim (hd a) (·.1)) hn'
  refine ⟨t, PSs.nox p, q (env0 N.length ((d0, m) :: ds.map fun d => (d, 0))) F (fun a => H a ≠ none ∧ a ∉ A0) (L2.start N (v0 :: vr)) H _ (env0_len (by rw [List.length_cons, List.length_map]; exact hn')) r0 ?_⟩
  have s0 : (L2.start N (v0 :: vr))[0]? = some (some v0) := start_get rfl
  have nP : ∀ a, ¬ (H a ≠ none ∧ a ∉ A0) → H a = none ∨ a ∈ A0 := fun a z => by
    by_cases e : H a = none
    · exact .inl e
    · exact .inr (Classical.byContradiction fun w => z ⟨e, w⟩)
  have fin : ∀ {F' : AS} {H' : Hp} {ρ' : Env'} {σ' : L2.St} {A : List Addr} {d d1 : D} {n : Nat} {v : V}, SK (fun i => i != 0) (L2.start N (v0 :: vr)) σ' → Step F (fun a => H a ≠ none ∧ a ∉ A0) H F' H' → RelX K F' (fun a => H a ≠ none ∧ a ∉ A0) ρ' σ' H' A → getS ρ' 0 = some (d1, m) →
      ∃ A1, Eff F H A0 F' H' (A1 ++ A) ∧ Own K F' H' m d1 v0 A1 := fun {F' H' ρ' σ' A d d1 n v} sk st r hg => by
    obtain ⟨v', B, e2, o2, r2⟩ := r.take (getS_some hg)
    have e3 := sk 0 rfl
    rw [e2, s0] at e3
    cases e3
    refine ⟨B, ⟨fun a ob e n => (st.prot a ⟨(by rw [e]; exact fun z => (by cases z)), n⟩).trans e, fun a z => (st.grow.at_ a z).1, fun a z => (st.fresh a z).imp id (nP a), fun a ha => r2.2.2.2.elim fun w q => ⟨nP a (q.2.2 a ha).2.2, (q.2.2 a ha).2.1⟩, r2.2.2.1, fun a z => r2.dom a (.inl z), st.grow.tups⟩, o2⟩
  unfold runI at h
  dsimp only at h
  cases hf : fb (env0 N.length ((d0, m) :: ds.map fun d => (d, 0))) with
  | stuck => rw [hf] at h; exact h.elim
  | exc y z => rw [hf] at h; exact h.elim
  | ok y =>
    obtain ⟨fl, ρ1⟩ := y
    rw [hf] at h
    cases fl with
    | bk => exact h.elim
    | ct => exact h.elim
    | nx =>
      simp only [endIO] at h
      cases hg : getS ρ1 0 with
      | none => rw [hg] at h; exact h.elim
      | some x1 =>
      obtain ⟨d1, m'⟩ := x1
      rw [hg] at h
      simp only [endM] at h
      by_cases hm : m' = m
      · subst hm
        rw [if_pos rfl] at h
        intro σ' H' F' sk st r1 _
        obtain ⟨A1, ef, o1⟩ := fin (d := .none) (n := 0) (v := .non) sk st r1 hg
        exact h _ H' F' [] A1 ef o1 ⟨rfl, .non⟩
      · rw [if_neg hm] at h; exact h.elim
    | rt d n =>
      simp only [endIO] at h
      cases hg : getS ρ1 0 with
      | none => rw [hg] at h; exact h.elim
      | some x1 =>
      obtain ⟨d1, m'⟩ := x1
      rw [hg] at h
      simp only [endM] at h
      by_cases hm : m' = m
      · subst hm
        rw [if_pos rfl] at h
        intro σ' v H' F' A sk st r1 o
        obtain ⟨A1, ef, o1⟩ := fin (d := d) (n := n) (v := v) sk st r1 hg
        exact h v H' F' A A1 ef o1 o
      · rw [if_neg hm] at h; exact h.elim
end
end DL

namespace DL
open PySem PySem.Spec PyProof.Rows L2

/-! ### dicts whose keys are tuples -/
def keyOf : D → Option Key
  | .int i => some (.inl i)
  | .str x => some (.inr x)
  | _ => none
def keysL : List D → Option (List Key)
  | [] => some []
  | d :: ds => (keyOf d).bind fun k => (keysL ds).map fun ks => k :: ks
theorem keysL_map : ∀ ks : List Key, keysL (ks.map keyD) = some ks
  | [] => rfl
  | k :: ks => by
    have e : keyOf (keyD k) = some k := by cases k <;> rfl
    rw [List.map_cons, keysL, e, keysL_map ks]
    rfl
theorem keysL_some : ∀ {ds : List D} {ks : List Key}, keysL ds = some ks → ds = ks.map keyD
  | [], ks, h => by cases h; rfl
  | d :: ds, ks, h => by
    rw [keysL] at h
    cases e : keyOf d with
    | none => rw [e] at h; cases h
    | some k =>
      rw [e] at h
      cases e2 : keysL ds with
      | none => rw [e2] at h; cases h
      | some l =>
        rw [e2] at h
        cases h
        rw [keysL_some e2]
        have : d = keyD k := by cases d <;> (try cases e) <;> rfl
        rw [this]
        rfl
abbrev TD := List (List Key × D)
def encT : TD → List (D × D)
  | [] => [(.none, .none)]
  | p :: r => (.tuple (p.1.map keyD), p.2) :: encT r
def decT : List (D × D) → Option TD
  | [] => none
  | (.none, _) :: _ => some []
  | (.tuple ks, d) :: r => (keysL ks).bind fun k => (decT r).map fun t => (k, d) :: t
  | _ => none
theorem decT_enc : ∀ es : TD, decT (encT es) = some es
  | [] => rfl
  | (k, d) :: r => by
    rw [encT, decT, keysL_map, Option.bind_some, decT_enc r]
    rfl
/-- the dict with these items -/
def tdic (es : TD) : D := .dict (encT es)
def tOf : D → Option TD
  | .dict kvs => decT kvs
  | _ => none
@[simp] theorem tOf_tdic (es : TD) : tOf (tdic es) = some es := decT_enc es
abbrev PT' (K : PySem.W.Frag) (F : AS) (H : Hp) : TD → List (List Key × V) → Prop := Paired fun p q => p.1 = q.1 ∧ Rep K F H p.2 q.2
section
variable {K : PySem.W.Frag} {F F' P : AS} {H H' : Hp}
theorem RepT.dec : ∀ {kvs : List (D × D)} {ks : List (List Key × V)}, RepT K F H kvs ks → ∃ es, kvs = encT es ∧ PT' K F H es ks
  | _, _, .nil => ⟨[], rfl, .nil⟩
  | _, _, .cons h t => by
    obtain ⟨es, e, p⟩ := RepT.dec t
    exact ⟨(_, _) :: es, by rw [e]; rfl, .cons ⟨rfl, h⟩ p⟩
theorem RepT.enc {es : TD} {ks : List (List Key × V)} (p : PT' K F H es ks) : RepT K F H (encT es) ks := by
  induction p with
  | nil => exact .nil
  | @cons a b as bs h t ih =>
    obtain ⟨k, d⟩ := a
    obtain ⟨k', v⟩ := b
    obtain ⟨rfl, r⟩ := h
    exact .cons r ih
theorem repT_tdic {es : TD} {ks : List (List Key × V)} (r : RepT K F H (encT es) ks) : PT' K F H es ks := by
  obtain ⟨es', e, p⟩ := r.dec
  have := congrArg decT e
  rw [decT_enc, decT_enc] at this
  cases this
  exact p
theorem noK {es : TD} {ks : List (Key × V)} (r : RepK K F H (encT es) ks) : False := by
  cases es with
  | nil =>
    have : ∀ {x : List (D × D)}, x = encT [] → RepK K F H x ks → False := fun {x} e r => by
      cases r with
      | nil => cases e
      | @cons k d v ds vs h t =>
        have := (List.cons.inj e).1
        cases k <;> cases this
    exact this rfl r
  | cons p es =>
    have : ∀ {x : List (D × D)}, x = encT (p :: es) → RepK K F H x ks → False := fun {x} e r => by
      cases r with
      | nil => cases e
      | @cons k d v ds vs h t =>
        have := (List.cons.inj e).1
        cases k <;> cases this
    exact this rfl r
theorem rep_keys : ∀ k : List Key, RepL K F H (k.map keyD) (k.map kV)
  | [] => .nil
  | .inl i :: k => .cons (.int i) (rep_keys k)
  | .inr x :: k => .cons (.str x) (rep_keys k)
/-- in its place, or at the end -/
def putT (es : TD) (k : List Key) (d : D) : TD := if (es.any fun p => decide (p.1 = k)) = true then es.map fun p => if p.1 = k then (p.1, d) else p else es ++ [(k, d)]
theorem pt_any {es : TD} {ks : List (List Key × V)} (k : List Key) (p : PT' K F H es ks) : (ks.any fun p => decide (p.1 = k)) = es.any fun p => decide (p.1 = k) := by
  induction p with
  | nil => rfl
  | cons h t ih => rw [List.any_cons, List.any_cons, ih, h.1]
theorem pt_put {es : TD} {ks : List (List Key × V)} {d : D} {v : V} (k : List Key) (p : PT' K F H es ks) (r : Rep K F H d v) : PT' K F H (putT es k d) (putK ks k v) := by
  unfold putT putK
  rw [pt_any k p]
  by_cases z : (es.any fun p => decide (p.1 = k)) = true
  · rw [if_pos z, if_pos z]
    clear z
    induction p with
    | nil => exact .nil
    | @cons a b as bs h t ih =>
      refine .cons ?_ ih
      dsimp only
      by_cases e : a.1 = k
      · rw [if_pos e, if_pos (h.1 ▸ e)]
        exact ⟨h.1, r⟩
      · rw [if_neg e, if_neg (h.1 ▸ e)]
        exact h
  · rw [if_neg z, if_neg z]
    clear z
    induction p with
    | nil => exact .cons ⟨rfl, r⟩ .nil
    | cons h t ih => exact .cons h ih
theorem PT'.length {es : TD} {ks : List (List Key × V)} (p : PT' K F H es ks) : ks.length = es.length := by
  induction p with
  | nil => rfl
  | cons h t ih => rw [List.length_cons, List.length_cons, ih]
theorem PT'.get {es : TD} {ks : List (List Key × V)} (p : PT' K F H es ks) : ∀ {i : Nat} {x : List Key × D}, es[i]? = some x → ∃ v, ks[i]? = some (x.1, v) ∧ Rep K F H x.2 v := by
  induction p with
  | nil => intro i x e; simp at e
  | @cons a b as bs h t ih =>
    intro i x e
    cases i with
    | zero =>
      simp at e
      subst e
      obtain ⟨k, v⟩ := b
      exact ⟨v, by rw [h.1]; rfl, h.2⟩
    | succ i =>
      rw [List.getElem?_cons_succ] at e
      rw [List.getElem?_cons_succ]
      exact ih e
theorem PT'.mono {es : TD} {ks : List (List Key × V)} (p : PT' K F H es ks) (g : Grow F H F' H') : PT' K F' H' es ks := by
  induction p with
  | nil => exact .nil
  | cons h t ih => exact .cons ⟨h.1, h.2.mono g⟩ ih
theorem own_tdic {es : TD} {v : V} {A : List Addr} (o : Own K F H 1 (tdic es) v A) : ∃ a ks, v = .ref a ∧ H a = some (.dT ks) ∧ A = [a] ∧ PT' K F H es ks := by
  rcases o with ⟨_, h, _⟩ | ⟨ds, a, vs, B, h, _⟩ | ⟨kvs, a, ks, h1, h2, h3, h4, h5⟩ | ⟨kvs, a, ks, h1, h2, h3, h4, h5⟩
  · cases h
  · cases h
  · cases h1; exact (noK h5).elim
  · cases h1; exact ⟨a, ks, h2, h3, h4, repT_tdic h5⟩
def keysD (es : TD) : List D := es.map fun p => .tuple (p.1.map keyD)
theorem it_keysT {d : Addr} {o : Obj} {ks : List (List Key × V)} {es : TD} (f : F d) (h : H d = some (.frz o (.dT ks))) (p : PT' K F H es ks) : ItRep K F (Itkt d o ks) (keysD es) H := by
  intro i H1 F1 g hd
  have h1 : H1 d = some (.frz o (.dT ks)) := (g.at_ d f).2.trans h
  refine ⟨fun x e => ?_, fun z => ⟨h1, by rw [p.length]; simpa [keysD] using z⟩⟩
  simp only [keysD, List.getElem?_map] at e
  cases e1 : es[i]? with
  | none => rw [e1] at e; cases e
  | some y =>
    rw [e1] at e
    cases e
    obtain ⟨v, hv, _⟩ := p.get e1
    refine ⟨⟨h1, (List.getElem?_eq_some_iff.mp hv).1⟩, fun x H2 q => ?_⟩
    obtain ⟨rfl, k, v', q, hk, rfl, hq⟩ := q
    rw [hv] at hk
    cases hk
    exact ⟨F1, Alloc.refl hd, .tup hq (rep_keys _)⟩

/-! ### a thing that was locked -/
def plainO : HO → Prop
  | .frz _ _ => False
  | _ => True
mutual
theorem Rep.rd (g : ∀ a u, plainO u → Rd H a u → Rd H' a u) (t : ∀ a vs, H a = some (.tup vs) → H' a = some (.tup vs)) : ∀ {d : D} {v : V}, Rep K F H d v → Rep K F H' d v
  | _, _, .non => .non
  | _, _, .bl b => .bl b
  | _, _, .int i => .int i
  | _, _, .str x => .str x
  | _, _, .lst f r l => .lst f (g _ _ trivial r) (RepL.rd g t l)
  | _, _, .klst r l => .klst r (RepL.rd g t l)
  | _, _, .tup r l => .tup (t _ _ r) (RepL.rd g t l)
  | _, _, .ktup f l => .ktup f (RepL.rd g t l)
  | _, _, .dK f r l => .dK f (g _ _ trivial r) (RepK.rd g t l)
  | _, _, .dT f r l => .dT f (g _ _ trivial r) (RepT.rd g t l)
theorem RepL.rd (g : ∀ a u, plainO u → Rd H a u → Rd H' a u) (t : ∀ a vs, H a = some (.tup vs) → H' a = some (.tup vs)) : ∀ {d : List D} {v : List V}, RepL K F H d v → RepL K F H' d v
  | _, _, .nil => .nil
  | _, _, .cons h s => .cons (Rep.rd g t h) (RepL.rd g t s)
theorem RepK.rd (g : ∀ a u, plainO u → Rd H a u → Rd H' a u) (t : ∀ a vs, H a = some (.tup vs) → H' a = some (.tup vs)) : ∀ {d : List (D × D)} {v : List (Key × V)}, RepK K F H d v → RepK K F H' d v
  | _, _, .nil => .nil
  | _, _, .cons h s => .cons (Rep.rd g t h) (RepK.rd g t s)
theorem RepT.rd (g : ∀ a u, plainO u → Rd H a u → Rd H' a u) (t : ∀ a vs, H a = some (.tup vs) → H' a = some (.tup vs)) : ∀ {d : List (D × D)} {v : List (List Key × V)}, RepT K F H d v → RepT K F H' d v
  | _, _, .nil => .nil
  | _, _, .cons h s => .cons (Rep.rd g t h) (RepT.rd g t s)
end
theorem Own.rd (g : ∀ a u, plainO u → Rd H a u → Rd H' a u) (t : ∀ a u, plainO u → H a = some u → H' a = some u) : ∀ {n : Nat} {d : D} {v : V} {A : List Addr}, Own K F H n d v A → Own K F H' n d v A
  | 0, d, v, A, h => ⟨h.1, h.2.rd g fun a vs e => t a _ trivial e⟩
  | n + 1, d, v, A, h => by
    rcases h with ⟨h1, h2, h3⟩ | ⟨ds, a, vs, B, h1, h2, h3, h4, h5⟩ | ⟨kvs, a, ks, h1, h2, h3, h4, h5⟩ | ⟨kvs, a, ks, h1, h2, h3, h4, h5⟩
    · exact .inl ⟨h1, h2, h3.rd g fun a vs e => t a _ trivial e⟩
    · exact .inr (.inl ⟨ds, a, vs, B, h1, h2, t a _ trivial h3, h4, h5.imp fun d v C _ o => Own.rd g t o⟩)
    · exact .inr (.inr (.inl ⟨kvs, a, ks, h1, h2, t a _ trivial h3, h4, h5.rd g fun a vs e => t a _ trivial e⟩))
    · exact .inr (.inr (.inr ⟨kvs, a, ks, h1, h2, t a _ trivial h3, h4, h5.rd g fun a vs e => t a _ trivial e⟩))
theorem unlock_get {d : Addr} {od : Obj} {u : HO} (h : H d = some (.frz od u)) : ∀ a w, plainO w → H a = some w → upd H d u a = some w := fun a w pw e => by
  by_cases z : a = d
  · subst z
    rw [h] at e
    cases e
    exact pw.elim
  · rw [upd_ne z]; exact e
theorem unlock_rd {d : Addr} {od : Obj} {u : HO} (h : H d = some (.frz od u)) : ∀ a w, plainO w → Rd H a w → Rd (upd H d u) a w := fun a w pw e => by
  rcases e with e | ⟨o, e⟩
  · exact .inl (unlock_get h a w pw e)
  · by_cases z : a = d
    · subst z
      rw [h] at e
      cases e
      exact .inl upd_same
    · exact .inr ⟨o, by rw [upd_ne z]; exact e⟩
theorem upd_some {d a : Addr} {u : HO} (h : H a ≠ none) : upd H d u a ≠ none := by
  by_cases z : a = d
  · subst z; rw [upd_same]; exact fun e => by cases e
  · rw [upd_ne z]; exact h
theorem RelX.unlock {ρ : Env'} {σ : L2.St} {A : List Addr} {d : Addr} {od : Obj} {u : HO} (r : RelX K F P ρ σ H A) (h : H d = some (.frz od u)) : RelX K F P ρ σ (upd H d u) A := by
  obtain ⟨hl, hd, hn, w, h1, h2, h3⟩ := r
  refine ⟨hl, fun a z => upd_some (hd a z), hn, w, fun i d n e => ?_, fun a i e => ⟨(h2 a i e).1, (h2 a i e).2.1, upd_some (h2 a i e).2.2⟩, h3⟩
  obtain ⟨v, B, e1, o, nd, hw⟩ := h1 i d n e
  exact ⟨v, B, e1, o.rd (unlock_rd h) (unlock_get h), nd, hw⟩
theorem Step.unlock {d : Addr} {u0 u : HO} (h : H d = some u0) (pu : ∀ vs, u0 ≠ .tup vs) (nF : ¬ F d) (nP : ¬ P d) {F1 : AS} {H1 : Hp} (st : Step F P H F1 H1) : Step F P H F1 (upd H1 d u) :=
  ⟨⟨fun a z => ⟨(st.grow.at_ a z).1, by rw [upd_ne (fun e => nF (by rw [← e]; exact z))]; exact (st.grow.at_ a z).2⟩, fun a vs e => by
    rw [upd_ne (fun z => by rw [z, h] at e; cases e; exact pu vs rfl)]
    exact st.grow.tups a vs e⟩, fun a z => by rw [upd_ne (fun e => nP (by rw [← e]; exact z))]; exact st.prot a z, st.fresh⟩
end
section
variable {X : Cx} {E : Exs} {e : Expr} {es : List Expr} {pos apos cpos : Pos} {W : Nat → Bool}
/-- {}, for tuples as keys -/
theorem de_dnewT : DE X E (.Dict [] [] pos) fun ρ => .ok (tdic [], 1, ρ) := by
  refine ⟨_, pe_dnewT, fun ρ F P σ H Q hl r h => ?_⟩
  intro p hp
  have hd : ∀ a, F a → H a ≠ none := fun a z => r.dom a (.inl z)
  have ef : Alloc F H F (upd H p (.dT [])) [p] := ⟨fun a o q n => by rw [upd_ne fun z => by rw [z, hp] at q; cases q]; exact q, fun _ z => z, fun _ z => .inl z, fun a ha => by rw [List.mem_singleton.mp ha]; exact ⟨.inl hp, fun z => hd p z hp⟩, by simp, fun a z => upd_some (hd a z), fun a vs q => by rw [upd_ne fun z => by rw [z, hp] at q; cases q]; exact q⟩
  exact h _ _ F [p] (ef.step r) (ef.rel r) (.inr (.inr (.inr ⟨_, p, [], rfl, rfl, upd_same, rfl, RepT.enc .nil⟩)))
/-- a key: a tuple that is made here -/
structure DK (X : Cx) (E : Exs) (e : Expr) (f : Env' → Res (List Key × Env')) : Prop where
  ex : ∃ t, PE X e t ∧ ∀ (ρ : Env') (F P : AS) (σ : L2.St) (H : Hp) (Q : VK), ρ.length = X.N.length → Rel X.K F P ρ σ H →
    Post X E F P σ H (f ρ) (fun r => ∀ b H' F', Step F P H F' H' → Rel X.K F' P r.2 σ H' → H' b = some (.tup (r.1.map kV)) → Q (.ref b) H') → t σ H Q
def ownKeys (ds : List (D × Nat)) : Option (List Key) := keysL (ds.map (·.1))
theorem own_keys {K : PySem.W.Frag} {F : AS} {H : Hp} : ∀ {ds : List (D × Nat)} {vs : List V} {ks : List Key}, Paired (fun (d : D × Nat) v => ∃ A, Own K F H d.2 d.1 v A) ds vs → ownKeys ds = some ks → vs = ks.map kV
  | _, _, ks, .nil, e => by cases e; rfl
  | _, _, ks, @Paired.cons _ _ _ d v ds vs ⟨A, o⟩ t, e => by
    unfold ownKeys at e
    rw [List.map_cons, keysL] at e
    cases e1 : keyOf d.1 with
    | none => rw [e1] at e; cases e
    | some k =>
      rw [e1, Option.bind_some] at e
      cases e2 : keysL (ds.map (·.1)) with
      | none => rw [e2] at e; cases e
      | some l =>
        rw [e2] at e
        cases e
        rw [own_keys t e2]
        have : v = kV k := by
          obtain ⟨d, n⟩ := d
          cases d <;> (try cases e1)
          · exact own_int o
          · exact own_str o
        rw [this]
        rfl
theorem dk_tuple {x1 : Nat} {f : Env' → Res (List (D × Nat) × Env')} (h : DC X E es f) : DK X E (.Tuple es x1 pos) fun ρ => f ρ >>= fun r => liftO (ownKeys r.1) >>= fun k => if k.length ≤ line then .ok (k, r.2) else .stuck := by
  obtain ⟨t, pa, qa⟩ := h
  refine ⟨_, pe_tup pa, fun ρ F P σ H Q hl rr hh => qa ρ F P σ H _ hl rr (hh.bind.same fun r hr vs H1 F1 st r1 l => ?_)⟩
  cases hk : ownKeys r.1 with
  | none => rw [hk] at hr; exact hr.elim
  | some ks =>
  rw [hk] at hr
  simp only [liftO, bind_ok] at hr
  by_cases z : ks.length ≤ line
  · rw [if_pos z] at hr
    have ev := own_keys l hk
    refine ⟨by rw [ev, List.length_map, line_eq]; exact z, fun p hp => ?_⟩
    have hd : ∀ a, F1 a → H1 a ≠ none := fun a z => r1.dom a (.inl z)
    have ef : Alloc F1 H1 F1 (upd H1 p (.tup vs)) [] := ⟨fun a o q n => by rw [upd_ne fun z => by rw [z, hp] at q; cases q]; exact q, fun _ z => z, fun _ z => .inl z, fun a ha => (by cases ha), List.nodup_nil, fun a z => upd_some (hd a z), fun a vs q => by rw [upd_ne fun z => by rw [z, hp] at q; cases q]; exact q⟩
    exact hr p _ F1 (st.trans (ef.step r1)) (ef.rel r1) (by rw [upd_same, ev])
  · rw [if_neg z] at hr; exact hr.elim
theorem dk_if {c a b : Expr} {fc : Env' → Res (Bool × Env')} {fa fb : Env' → Res (List Key × Env')} (hc : DT X E c fc) (ha : DK X E a fa) (hb : DK X E b fb) : DK X E (.IfExp c a b pos) fun ρ => fc ρ >>= fun r => if r.1 = true then fa r.2 else fb r.2 := by
  obtain ⟨tc, pc, qc⟩ := hc
  obtain ⟨ta, pa, qa⟩ := ha
  obtain ⟨tb, pb, qb⟩ := hb
  refine ⟨_, pe_ifExp pc pa pb, fun ρ F P σ H Q hl rr hh => qc ρ F P σ H _ hl rr (hh.bind.same fun r hr H1 F1 st r1 => ?_)⟩
  obtain ⟨b, ρ1⟩ := r
  have l1 := rel_len rr hl r1
  cases b with
  | true => exact qa ρ1 F1 P σ H1 _ l1 r1 (hr.imp st (fun _ z => z) fun a h b H' F' s r' e => h b H' F' (st.trans s) r' e)
  | false => exact qb ρ1 F1 P σ H1 _ l1 r1 (hr.imp st (fun _ z => z) fun a h b H' F' s r' e => h b H' F' (st.trans s) r' e)
/-! ### name[key] = value -/
def isOwnT : Option (D × Nat) → Bool
  | some (.dict _, 1) => true
  | _ => false
def tAt (x : Option (D × Nat)) : Option TD := match x with
  | some (d, 1) => tOf d
  | _ => none
theorem tOf_some {d : D} {es : TD} (h : tOf d = some es) {K : PySem.W.Frag} {F : AS} {H : Hp} {v : V} {A : List Addr} (o : Own K F H 1 d v A) : ∃ a ks, v = .ref a ∧ H a = some (.dT ks) ∧ A = [a] ∧ PT' K F H es ks := by
  cases d <;> try (simp only [tOf] at h; cases h)
  rename_i kvs
  rcases o with ⟨_, z, _⟩ | ⟨ds, a, vs, B, z, _⟩ | ⟨kvs', a, ks, h1, h2, h3, h4, h5⟩ | ⟨kvs', a, ks, h1, h2, h3, h4, h5⟩
  · cases z
  · cases z
  · cases h1
    have dk : ∀ {x : List (D × D)} {y : List (Key × V)}, RepK K F H x y → decT x = none := fun {x y} r => by
      cases r with
      | nil => rfl
      | @cons k d v ds vs h t => cases k <;> rfl
    simp only [tOf] at h
    rw [dk h5] at h
    cases h
  · cases h1
    obtain ⟨es', e, p⟩ := h5.dec
    simp only [tOf, e, decT_enc] at h
    cases h
    exact ⟨a, ks, h2, h3, h4, p⟩
theorem tAt_some {x : Option (D × Nat)} {es : TD} (h : tAt x = some es) : ∃ d, x = some (d, 1) ∧ tOf d = some es := by
  unfold tAt at h
  split at h
  · exact ⟨_, rfl, h⟩
  · cases h
def putTF (i : Nat) (fv : Env' → Res (D × Nat × Env')) (fk : Env' → Res (List Key × Env')) : Env' → Res (Fl × Env') := fun ρ => fv ρ >>= fun y => if isOwnT (getS y.2.2 i) = true then fk y.2.2 >>= fun k => liftO (tAt (getS k.2 i)) >>= fun es => if es.length < line then .ok (.nx, k.2.set i (some (tdic (putT es k.1 y.1), 1))) else .stuck else .stuck
theorem ds_dputT (i : Nat) {x : Str} {p pos' : Pos} {ix value : Expr} {fv : Env' → Res (D × Nat × Env')} {fk : Env' → Res (List Key × Env')} (hu : X.A.units + 1 < cLine) (hv : DE X E value fv) (hk : DK X E ix fk) (hN : X.N[i]? = some x := by rfl) (hx : Vis X.env.scope x := by first | exact Or.inl rfl | exact Or.inr (Or.inl rfl) | exact Or.inr (Or.inr rfl)) (hd : (x == ("__debug__" : Str)) = false := by decide) (hcd : (x == ("__classdict__" : Str)) = false := by decide)
    (hs : swapsWith value (some (.Subscript (.Name x p) ix pos')) pos.line X.env = pure false := by rfl) : DS X E W (.Assign [.Subscript (.Name x p) ix pos'] value pos) (putTF i fv fk) := by
  obtain ⟨tv, pv, qv⟩ := hv
  obtain ⟨tk, pk, qk⟩ := hk
  refine ⟨_, ps_dput hu (pe_var hN hx hd hcd) pk pv hs, fun ρ F P σ H Dn hl r h => qv ρ F P σ H _ hl r (PostS.of h |>.same fun y hy v H1 F1 A st r1 o1 => ?_)⟩
  obtain ⟨dy, ny, ρ1⟩ := y
  simp only at hy r1 o1
  obtain ⟨F2, st2, r2, rp⟩ := frozen_seq r1 o1
  have l1 := rel_len r hl r1
  by_cases z0 : isOwnT (getS ρ1 i) = true
  case neg => rw [if_neg z0] at hy; exact hy.elim
  rw [if_pos z0] at hy
  have hg0 : ∃ d0, getS ρ1 i = some (d0, 1) := by
    unfold isOwnT at z0
    split at z0
    · rename_i e; exact ⟨_, e⟩
    · cases z0
  obtain ⟨d0, hg0⟩ := hg0
  obtain ⟨v0, B0, e1, _, _⟩ := r2.slot (getS_some hg0)
  refine ⟨v0, e1, qk ρ1 F2 P σ H1 _ l1 r2 ((PostS.of hy).imp (st.trans st2) (fun _ z => z) fun k hk b H3 F3 st3 r3 hb => ?_)⟩
  obtain ⟨ks, ρ2⟩ := k
  simp only at hk r3 hb
  cases ht : tAt (getS ρ2 i) with
  | none => rw [ht] at hk; exact hk.elim
  | some es =>
  rw [ht] at hk
  simp only [liftO, bind_ok] at hk
  by_cases z1 : es.length < line
  case neg => rw [if_neg z1] at hk; exact hk.elim
  rw [if_pos z1] at hk
  obtain ⟨d1, hg1, hd1⟩ := tAt_some ht
  obtain ⟨v', C, e2, o2, r4⟩ := r3.take (getS_some hg1)
  rw [e1] at e2
  cases e2
  obtain ⟨a, kk, rfl, hH, rfl, pt⟩ := tOf_some hd1 o2
  have nF : ¬ F3 a := r4.2.2.2.elim fun w q => (q.2.2 a (by simp)).2.1
  have hdm : ∀ x, F3 x → H3 x ≠ none := fun x z => r3.dom x (.inl z)
  have ef : Eff F3 H3 ([a] ++ []) F3 (upd H3 a (.dT (putK kk ks v))) ([a] ++ []) := ⟨fun x o q n => by rw [upd_ne fun z => n (by rw [z]; simp)]; exact q, fun _ z => z, fun _ z => .inl z, fun x hx => ⟨.inr hx, (by have : x = a := (by simpa using hx); subst this; exact nF)⟩, by simp, fun x z => upd_some (hdm x z), fun x vs q => by rw [upd_ne fun z => by rw [z, hH] at q; cases q]; exact q⟩
  have g4 := ef.growF r4
  have r5 := RelX.put' (A := [a]) (B := []) (i := i) (d := tdic (putT es ks dy)) (n := 1) (ef.rel r4) (by exact e1) (.inr (.inr (.inr ⟨_, a, _, rfl, rfl, upd_same, rfl, RepT.enc (pt_put ks (pt.mono g4) ((rp.mono st3.grow).mono g4))⟩)))
  rw [List.set_set] at r5
  refine ⟨a, _, rfl, DPut.t hH hb (by rw [pt.length, line_eq]; exact z1), hk σ _ F3 SK.refl ((st.trans st2).trans (st3.trans (ef.step r4))) r5 ?_⟩
  rw [List.length_set]
  exact rel_len r2 l1 r3
/-! ### a comprehension over such a dict, which stands at a name -/
def freezeT (i : Nat) (ρ : Env') : Option (List D × Env') := (tAt (getS ρ i)).map fun es => (keysD es, ρ.set i (some (tdic es, 0)))
theorem de_lcT (i : Nat) {tg elt : Expr} {ifs : List Expr} {scope : Scope} {own : List (Str × Nat)} {x : Str} {p : Pos} {ws : List Nat} {g : D → Nat → Env' → Res Env'} {c : Env' → Res (Bool × Env')} {f : Env' → Res (D × Nat × Env')} (hc : X.calm = true) (hN : X.N.Nodup) (ok : BlkOk X.N X.env.scope scope own)
    (hg : ∀ (s : Shared) (H : Hp) (C : Addr) (cl : List (Str × Addr)) (fp : List Addr), DG (X.blk s H scope (compEnvC scope cl C X.env) fp) tg ws g) (ht : ∀ (s : Shared) (H : Hp) (C : Addr) (cl : List (Str × Addr)) (fp : List Addr), DTs (X.blk s H scope (compEnvC scope cl C X.env) fp) E00 ifs c)
    (he : ∀ (s : Shared) (H : Hp) (C : Addr) (cl : List (Str × Addr)) (fp : List Addr), DE (X.blk s H scope (compEnvC scope cl C X.env) fp) E00 elt f) (hNi : X.N[i]? = some x := by rfl) (hx : Vis X.env.scope x := by first | exact Or.inl rfl | exact Or.inr (Or.inl rfl) | exact Or.inr (Or.inr rfl)) (hd : (x == ("__debug__" : Str)) = false := by decide) (hcd : (x == ("__classdict__" : Str)) = false := by decide) (hw : ∀ i ∈ ws, i ∈ own.map (·.2) := by decide) (hs : ∀ y, foldedSetIterable (.Name x p) X.env y = pure y := by intro _; rfl) :
    DE X E (.ListComp elt [⟨tg, .Name x p, ifs, 0⟩] scope pos) (lcF (fun ρ => liftO (freezeT i ρ)) g c f (own.map (·.2))) := by
  refine ⟨_, pe_lock (pe_lc (g := canG X ws g) (tt := canT X E00 c) (te := canE X E00 f) hc hN (pi_keys (pe_var hNi hx hd hcd)) ok (fun s H C cl fp => (hg s H C cl fp).can) (fun s H C cl fp => (ht s H C cl fp).can) (fun s H C cl fp => (he s H C cl fp).can) hs), fun ρ F P σ H Q hl r h => ?_⟩
  unfold lcF at h
  dsimp only at h
  unfold freezeT at h
  cases hta : tAt (getS ρ i) with
  | none => rw [hta] at h; exact h.elim
  | some es =>
  rw [hta] at h
  simp only [Option.map_some, liftO, bind_ok] at h
  obtain ⟨d1, hg1, hd1⟩ := tAt_some hta
  obtain ⟨v0, C, e1, o, r1⟩ := r.take (getS_some hg1)
  obtain ⟨a, kk, rfl, hH, rfl, pt⟩ := tOf_some hd1 o
  have nFP : ¬ F a ∧ ¬ P a := r1.2.2.2.elim fun w q => (q.2.2 a (by simp)).2
  refine ⟨a, _, hH, trivial, fun od => ?_⟩
  have hdm : ∀ x, F x → H x ≠ none := fun x z => r.dom x (.inl z)
  have ef : Eff F H ([a] ++ []) (fun x => F x ∨ x = a) (upd H a (.frz od (.dT kk))) [] := ⟨fun x o q n => by rw [upd_ne fun z => n (by rw [z]; simp)]; exact q, fun _ z => .inl z, fun x z => z.imp id fun z => .inr (by simp [z]), fun x hx => (by cases hx), List.nodup_nil, fun x z => z.elim (fun z => upd_some (hdm x z)) fun z => (by rw [z, upd_same]; exact fun z => by cases z), fun x vs q => by rw [upd_ne fun z => by rw [z, hH] at q; cases q]; exact q⟩
  have g4 := ef.growF r1
  have pt' := pt.mono g4
  have r2 := RelX.put' (A := []) (B := []) (i := i) (d := tdic es) (n := 0) (ef.rel r1) (by exact e1) ⟨rfl, .dT (.inr rfl) (.inr ⟨od, upd_same⟩) (RepT.enc pt')⟩
  rw [List.set_set] at r2
  refine ⟨_, e1, a, od, rfl, .inr ⟨kk, upd_same, ?_⟩⟩
  show tLc (fun _ H1 R => R (Itkt a od kk) H1) (canG X ws g) (canT X E00 c) (canE X E00 f) (own.map (·.2)) σ (upd H a (.frz od (.dT kk))) fun v H' => H' a = some (.frz od (.dT kk)) ∧ Q v (upd H' a (.dT kk))
  refine lc_from (E := E) (q := (keysD es, ρ.set i (some (tdic es, 0)))) hw (by show (ρ.set i (some (tdic es, 0))).length = _; rw [List.length_set]; exact hl) r2 Step.refl r2 (it_keysT (.inr rfl) upd_same pt') ?_
  have stA := ef.step r1
  have key : ∀ {q : D × Nat × Env'}, (∀ v H' F' A, Step F P H F' H' → RelX X.K F' P q.2.2 σ H' A → Own X.K F' H' q.2.1 q.1 v A → Q v H') → ∀ v H' F' A, Step (fun x => F x ∨ x = a) P (upd H a (.frz od (.dT kk))) F' H' → RelX X.K F' P q.2.2 σ H' A → Own X.K F' H' q.2.1 q.1 v A → H' a = some (.frz od (.dT kk)) ∧ Q v (upd H' a (.dT kk)) := fun {q} hq v H' F' A st r' o' => by
    have ha : H' a = some (.frz od (.dT kk)) := ((st.grow.at_ a (.inr rfl)).2).trans upd_same
    exact ⟨ha, hq v _ F' A (Step.unlock hH (fun vs z => by cases z) nFP.1 nFP.2 (stA.trans st)) (r'.unlock ha) (o'.rd (unlock_rd ha) (unlock_get ha))⟩
  split at h
  · rename_i hz
    rw [if_pos hz]
    cases hcf : compF g c f (own.map (·.2)) (keysD es) (wipeD (ρ.set i (some (tdic es, 0))) (own.map (·.2))) with
    | stuck => rw [hcf] at h; exact h.elim
    | exc y z => exact (compF_no hcf).elim
    | ok w => rw [hcf] at h; exact key h
  · exact h.elim
end
end DL

namespace DL
open PySem PySem.Spec PyProof.Rows L2

/-! ### tuple * int, also by 0 and 1 -/
theorem mul_same (l : Addr) (its : Array Value) (n : Nat) (dd : Option Addr) (sl : Array (Option Value)) (x : Int) (u : Tok) (hx : (its.isEmpty || x == 1) = true) (hr : (decide (x < -(2 ^ 63)) || decide (x ≥ 2 ^ 63)) = false) :
    Meets (Builtin.«tuple.__mul__» ⟨[.ref l, .int x u], []⟩) (fun _ R s => s.heap.get? l = some { cls := .type "tuple", dict := dd, data := .seq its n, slots := sl } ∧ R (.ok (.ret (Value.ref l))) s) :=
  .of_wp fun prog w A R s h => by
    obtain ⟨hp, g, d, tk, os⟩ := s
    obtain ⟨hl, h⟩ := h
    have idx := AutoSeq1.idx_int
    wp_walk using wpAny_loadPart' hl
    refine wpAny_ite_false (decide_eq_false fun z => absurd (hr.symm.trans z) Bool.false_ne_true) ?_
    wp_walk using wpAny_loadPart' hl
    exact ⟨_, rfl, h⟩
theorem mul_none (l : Addr) (its : Array Value) (n : Nat) (dd : Option Addr) (sl : Array (Option Value)) (u : Tok) (hx : its.isEmpty = false) :
    Meets (Builtin.«tuple.__mul__» ⟨[.ref l, .int 0 u], []⟩) (fun _ R s => s.heap.get? l = some { cls := .type "tuple", dict := dd, data := .seq its n, slots := sl } ∧
      R (.ok (.ret (Value.ref s.heap.objs.size))) { s with heap := s.heap.push { cls := Value.type "tuple", data := Data.seq #[] }, toks := s.toks }) :=
  .of_wp fun prog w A R s h => by
    obtain ⟨hp, g, d, tk, os⟩ := s
    obtain ⟨hl, h⟩ := h
    have idx := AutoSeq1.idx_int
    have y1 : (its.isEmpty || (0 : Int) == 1) = false := by rw [hx]; rfl
    wp_walk using wpAny_loadPart' hl
    first
      | refine wpAny_ite_false (decide_eq_false fun z => absurd (y1.symm.trans z) Bool.false_ne_true) ?_
      | skip
    wp_walk using wpAny_loadPart' hl
    exact ⟨_, rfl, h⟩
def rMul01 (K : PySem.W.Frag) : R2 := fun x y H Q => ∃ l k xs, x = .ref l ∧ y = .int k ∧ SqT K H l xs ∧ ((k = 1 ∧ Q (.ref l) H) ∨ (k = 0 ∧ (xs = [] → Q (.ref l) H) ∧ ∀ p, H p = none → Q (.ref p) (upd H p (.tup []))))
section
variable {X : Cx}
theorem op_mul01 : OpR X (binaryOp .Mult) (rMul01 X.K) := by
  intro pins s σ H x y v u Q I rx ry h
  obtain ⟨l, k, xs, rfl, rfl, hT, q⟩ := h
  cases rx
  obtain ⟨t, rfl⟩ := ry
  obtain ⟨its, r, ⟨⟨cls, dd, data, sl⟩, ho, hc, n, hd⟩, hs⟩ := I.tuple hT
  simp only at hc hd
  subst hc hd
  have go : ∀ {R : Result → Shared → Prop}, wpAny (model X.prog X.w) (X.A.in1) (call (.builtin "tuple.__mul__") [.ref l, .int k t]) (EP X pins σ Q) X.xe s → True := fun _ => trivial
  by_cases hx : (its.toArray.isEmpty || k == 1) = true
  · have hk : k = 1 ∨ (k = 0 ∧ xs = []) := by
      rcases q with ⟨e, _⟩ | ⟨e, _⟩
      · exact .inl e
      · subst e
        refine .inr ⟨rfl, ?_⟩
        cases its with
        | nil => exact List.eq_nil_of_length_eq_zero r.length
        | cons a b => cases hx
    have hq : Q (.ref l) H := by
      rcases q with ⟨e, q⟩ | ⟨e, q, _⟩
      · exact q
      · rcases hk with z | z
        · omega
        · exact q z.2
    have c0 : (decide (k < -(2 ^ 63)) || decide (k ≥ 2 ^ 63)) = false := by
      rcases hk with z | ⟨z, _⟩ <;> subst z <;> decide
    exact wpAny_binaryOp_repeat_ref (T := "tuple") (U := "int") (by decide) ⟨_, ho, rfl⟩ (fun s' => typeIs_int s' k t) noFill_tuple_mul F.fills_int_mul F.slot_int_rmul repeat_tuple F.slot_int_index.lookup
      (call_meets F.slot_int_rmul (typeIs_int s k t) F.entry_int_rmul (F.args_int_rmul_2 _ _) (int_rmul_tuple k t l its.toArray n dd sl)
        ⟨ho, rfl, ⟨_, ho, rfl⟩, call_meets F.slot_tuple_mul ⟨_, ho, rfl⟩ F.entry_tuple_mul (F.args_tuple_mul_2 _ _) (mul_same l its.toArray n dd sl k t hx c0) ⟨ho, .ref l, H, I, rfl, hq⟩⟩)
  · have hx : (its.toArray.isEmpty || k == 1) = false := by simpa using hx
    simp only [Bool.or_eq_false_iff] at hx
    rcases q with ⟨e, _⟩ | ⟨e, _, q⟩
    · subst e; simp at hx
    · subst e
      exact wpAny_binaryOp_repeat_ref (T := "tuple") (U := "int") (by decide) ⟨_, ho, rfl⟩ (fun s' => typeIs_int s' 0 t) noFill_tuple_mul F.fills_int_mul F.slot_int_rmul repeat_tuple F.slot_int_index.lookup
        (call_meets F.slot_int_rmul (typeIs_int s 0 t) F.entry_int_rmul (F.args_int_rmul_2 _ _) (int_rmul_tuple 0 t l its.toArray n dd sl)
          ⟨ho, rfl, ⟨_, ho, rfl⟩, call_meets F.slot_tuple_mul ⟨_, ho, rfl⟩ F.entry_tuple_mul (F.args_tuple_mul_2 _ _) (mul_none l its.toArray n dd sl t hx.1) ⟨ho, .ref s.heap.objs.size, _,
            I.laid (t' := s.toks) (o := .tup []) (fun b ob q => Heap.get?_push_of_some _ q) (Nat.le_refl _) ⟨Nat.zero_le _, [], .nil, IsTup.new _ _⟩, rfl, q _ (I.hok.fresh (Nat.le_refl _))⟩⟩)
def mulT01 (a b : D × Nat) : Option (D × Nat) := match a.1, b.1 with
  | .tuple ds, .int k => if k = 1 then some (.tuple ds, 0) else if k = 0 then some (.tuple [], 0) else none
  | _, _ => none
theorem opd_mulT01 : OpD X (binaryOp .Mult) mulT01 := by
  refine ⟨_, op_mul01, fun F H x y a b c A B Q hd o1 o2 e q => ?_⟩
  obtain ⟨da, n⟩ := a
  obtain ⟨db, m⟩ := b
  cases da <;> try (simp only [mulT01] at e; cases e)
  cases db <;> try (simp only [mulT01] at e; cases e)
  rename_i ds k
  simp only [mulT01] at e
  obtain ⟨a, vs, rfl, hH, l⟩ := rep_tuple' (own_still o1 rfl).2
  have sq : SqT X.K H a vs := SqT.grow (Grow.refl F H) hH
  rw [own_int o2]
  by_cases h1 : k = 1
  · subst h1
    rw [if_pos rfl] at e
    cases e
    exact ⟨a, 1, vs, rfl, rfl, sq, .inl ⟨rfl, q _ H F [] (Alloc.refl hd) ⟨rfl, (own_still o1 rfl).2⟩⟩⟩
  · rw [if_neg h1] at e
    by_cases h0 : k = 0
    · subst h0
      rw [if_pos rfl] at e
      cases e
      refine ⟨a, 0, vs, rfl, rfl, sq, .inr ⟨rfl, fun z => ?_, fun p hp => ?_⟩⟩
      · subst z
        have : ds = [] := List.eq_nil_of_length_eq_zero l.length.symm
        subst this
        exact q _ H F [] (Alloc.refl hd) ⟨rfl, (own_still o1 rfl).2⟩
      · obtain ⟨al, ow⟩ := alloc_tuple (K := X.K) hp hd .nil
        exact q _ _ _ [] al ⟨rfl, ow⟩
    · rw [if_neg h0] at e; cases e
def mulD (a b : D × Nat) : Option (D × Nat) := ((mulI a.1 b.1).map fun d => (d, 0)).or (mulT01 a b)
theorem opd_mul : OpD X (binaryOp .Mult) mulD := opp_mul.d.or opd_mulT01
/-! ### < of tuples of ints -/
def tintsD : D → Option (List Int)
  | .tuple ds => intsD ds
  | _ => none
def ltT (a b : D) : Option D := (tintsD a).bind fun x => (tintsD b).map fun y => .bool (HT.lexLt x y)
theorem tints_at {K : PySem.W.Frag} {F : AS} {H : Hp} {d : D} {n : Nat} {v : V} {A : List Addr} {ns : List Int} (o : Own K F H n d v A) (h : tintsD d = some ns) : ∃ a, v = .ref a ∧ SqT K H a (ns.map V.int) := by
  cases d <;> try (simp only [tintsD] at h; cases h)
  obtain ⟨a, vs, rfl, hH, l⟩ := rep_tuple' (own_still o rfl).2
  rw [(AllOwn.of_rep l).ints h] at hH
  exact ⟨a, rfl, SqT.grow (Grow.refl F H) hH⟩
theorem opp_ltT (hu : X.A.units < cLine) : OpP X (compareOp .Lt) ltT := by
  refine ⟨_, op_ltT hu, fun F H x y da db d na nb A B Q o1 o2 e q => ?_⟩
  unfold ltT at e
  cases h1 : tintsD da with
  | none => rw [h1] at e; cases e
  | some ns =>
  cases h2 : tintsD db with
  | none => rw [h1, h2] at e; cases e
  | some ms =>
  rw [h1, h2] at e
  cases e
  obtain ⟨a, rfl, s1⟩ := tints_at o1 h1
  obtain ⟨b, rfl, s2⟩ := tints_at o2 h2
  exact ⟨a, b, ns, ms, rfl, rfl, s1, s2, q _ (.bl _)⟩
def ltA (a b : D) : Option D := (ltI a b).or (ltT a b)
theorem opp_ltA (hu : X.A.units < cLine) : OpP X (compareOp .Lt) ltA := opp_lt.or (opp_ltT hu)
end
/-! ### sorted of pairs -/
def pairD : D → Option (Int × Int)
  | .tuple [.int i, .int j] => some (i, j)
  | _ => none
def pairsD : List D → Option (List (Int × Int))
  | [] => some []
  | d :: ds => (pairD d).bind fun p => (pairsD ds).map (p :: ·)
def pairV (p : Int × Int) : D := .tuple [.int p.1, .int p.2]
theorem pairD_some {d : D} {p : Int × Int} (h : pairD d = some p) : d = pairV p := by
  unfold pairD at h
  split at h
  · cases h; rfl
  · cases h
theorem pairsD_some : ∀ {ds : List D} {ps : List (Int × Int)}, pairsD ds = some ps → ds = ps.map pairV
  | [], ps, h => by cases h; rfl
  | d :: ds, ps, h => by
    rw [pairsD] at h
    cases e : pairD d with
    | none => rw [e] at h; cases h
    | some p =>
      rw [e] at h
      cases e2 : pairsD ds with
      | none => rw [e2] at h; cases h
      | some l =>
        rw [e2] at h
        cases h
        rw [pairD_some e, pairsD_some e2]
        rfl
theorem pairsD_map : ∀ ps : List (Int × Int), pairsD (ps.map pairV) = some ps
  | [] => rfl
  | p :: ps => by rw [List.map_cons, pairsD, pairsD_map ps]; rfl
def leP (p q : Int × Int) : Bool := !SrtO.lexB q p
def sortP (ps : List (Int × Int)) : List (Int × Int) := ps.mergeSort leP
theorem leP_trans (a b c : Int × Int) (h1 : leP a b = true) (h2 : leP b c = true) : leP a c = true := by
  unfold leP at *
  have h1 : SrtO.lexB b a = false := by simpa using h1
  have h2 : SrtO.lexB c b = false := by simpa using h2
  have a1 := SrtO.lexB_no.mp h1
  have a2 := SrtO.lexB_no.mp h2
  have : SrtO.lexB c a = false := SrtO.lexB_no.mpr (by omega)
  rw [this]; rfl
theorem leP_total (a b : Int × Int) : (leP a b || leP b a) = true := by
  unfold leP
  cases h : SrtO.lexB b a with
  | false => rfl
  | true =>
    have a1 := SrtO.lexB_iff.mp h
    have : SrtO.lexB a b = false := SrtO.lexB_no.mpr (by omega)
    rw [this]; rfl
theorem sortP_perm (ps : List (Int × Int)) : (sortP ps).Perm ps := List.mergeSort_perm ps leP
theorem sortP_sorted (ps : List (Int × Int)) : (sortP ps).Pairwise fun p q => leP p q = true := List.pairwise_mergeSort leP_trans leP_total ps
theorem leP_anti {a b : Int × Int} (h1 : leP a b = true) (h2 : leP b a = true) : a = b := by
  unfold leP at *
  have h1 : SrtO.lexB b a = false := by simpa using h1
  have h2 : SrtO.lexB a b = false := by simpa using h2
  have a1 := SrtO.lexB_no.mp h1
  have a2 := SrtO.lexB_no.mp h2
  exact Prod.ext (by omega) (by omega)
theorem sortedP_uniq : ∀ {xs ys : List (Int × Int)}, xs.Perm ys → xs.Pairwise (fun p q => leP p q = true) → ys.Pairwise (fun p q => leP p q = true) → xs = ys
  | [], ys, p, _, _ => (List.Perm.eq_nil p.symm).symm
  | x :: xs, [], p, _, _ => absurd p.length_eq (by simp)
  | x :: xs, y :: ys, p, hx, hy => by
    have h1 : leP x y = true := by
      rcases List.mem_cons.mp (p.mem_iff.mpr List.mem_cons_self) with e | e
      · subst e; simpa using leP_total y y
      · exact (List.pairwise_cons.mp hx).1 y e
    have h2 : leP y x = true := by
      rcases List.mem_cons.mp (p.mem_iff.mp List.mem_cons_self) with e | e
      · subst e; simpa using leP_total x x
      · exact (List.pairwise_cons.mp hy).1 x e
    have e := leP_anti h1 h2
    subst e
    rw [sortedP_uniq p.cons_inv (List.pairwise_cons.mp hx).2 (List.pairwise_cons.mp hy).2]
def sortedPD : List (D × Nat) → Option (D × Nat)
  | [(.list ds, _)] => (pairsD ds).map fun ps => (.list ((sortP ps).map pairV), 1)
  | _ => none
/-- two ints in a tuple -/
def PairAt (K : PySem.W.Frag) (H : Hp) (v : V) (p : Int × Int) : Prop := ∃ t, v = .ref t ∧ SqT K H t [.int p.1, .int p.2]
/-- the value's items by the heap -/
noncomputable def keyOfH (h : Heap) (u : Value) : Int × Int := open Classical in if z : ∃ p : Int × Int, Srt.IsPair h u p.1 p.2 then z.choose else (0, 0)
theorem keyOfH_eq {h : Heap} {u : Value} {p : Int × Int} (z : Srt.IsPair h u p.1 p.2) : keyOfH h u = p := by
  have e : ∃ p : Int × Int, Srt.IsPair h u p.1 p.2 := ⟨p, z⟩
  unfold keyOfH
  rw [dif_pos e]
  obtain ⟨a, o, t, w, n, rfl, ho, _, hd⟩ := e.choose_spec
  obtain ⟨a', o', t', w', n', e', ho', _, hd'⟩ := z
  cases e'
  rw [ho] at ho'
  cases ho'
  rw [hd] at hd'
  injection hd' with q _
  have q := congrArg Array.toList q
  simp only [List.cons.injEq, Value.int.injEq] at q
  exact Prod.ext q.1.1 q.2.1.1
theorem zip_of {H : Heap} : ∀ {xs : List V} {ps : List (Int × Int)} {us : List Value}, Vals xs us → xs.length = ps.length → (∀ (i : Nat) (u : Value) (p : Int × Int), us[i]? = some u → ps[i]? = some p → (∃ b, u = Value.ref b) ∧ Srt.IsPair H u p.1 p.2) →
    xs.zip ps = us.map fun u => (backV u, keyOfH H u)
  | [], [], _, .nil, _, _ => rfl
  | x :: xs, p :: ps, u :: us, .cons r t, hl, h => by
    obtain ⟨⟨b, rfl⟩, hp⟩ := h 0 u p rfl rfl
    have rr : RelV x (.ref b) := r
    have ex : x = .ref b := by
      cases x <;> first | (cases rr; done) | (cases rr; rfl) | (obtain ⟨t, z⟩ := rr; cases z)
    rw [List.zip_cons_cons, List.map_cons, zip_of t (by simpa using hl) fun i u p e1 e2 => h (i + 1) u p e1 e2, keyOfH_eq hp, ex]
    rfl
  | [], _ :: _, _, _, hl, _ => by simp at hl
  | _ :: _, [], _, _, hl, _ => by simp at hl
def rSortedPT (K : PySem.W.Frag) : List V → Hp → VK → Prop := fun vs H Q => ∃ (a : Addr) (xs : List V) (ps : List (Int × Int)), vs = [V.ref a] ∧ SqL K H a xs ∧ xs.length = ps.length ∧ (∀ (i : Nat) (x : V) (p : Int × Int), xs[i]? = some x → ps[i]? = some p → PairAt K H x p) ∧
  ∀ (zs : List (V × (Int × Int))) p, zs.Perm (xs.zip ps) → zs.map (·.2) = sortP ps → H p = none → Q (.ref p) (upd H p (.lst (zs.map (·.1))))
section
variable {X : Cx}
theorem cr_sortedPT : CallR X (.builtin "sorted") (rSortedPT X.K) := by
  intro pins s σ H vs us Q I r h
  obtain ⟨a, xs, ps, rfl, hs, hlen, hx, q⟩ := h
  obtain ⟨its, rv, hl, hz⟩ := I.list hs
  obtain ⟨u, rfl, ru⟩ := vals1 r
  cases (show u = Value.ref a from ru)
  have lits : its.length = ps.length := rv.length.symm.trans hlen
  have hr : ∀ x ∈ xs, ∃ t, x = V.ref t := fun x m => by
    obtain ⟨i, hi, e⟩ := List.getElem_of_mem m
    obtain ⟨t, z, _⟩ := hx i x (ps[i]'(by omega)) (by rw [← e]; exact List.getElem?_eq_getElem hi) (List.getElem?_eq_getElem _)
    exact ⟨t, z⟩
  obtain ⟨e1, e2⟩ := refs_back rv hr
  have at_ : ∀ (i : Nat) (v : Value) (p : Int × Int), its[i]? = some v → ps[i]? = some p → (∃ b, v = Value.ref b) ∧ Srt.IsPair s.heap v p.1 p.2 := fun i v p h1 h2 => by
    have hm : v ∈ its := List.mem_of_getElem? h1
    obtain ⟨t, rfl⟩ := e2 v hm
    refine ⟨⟨t, rfl⟩, ?_⟩
    obtain ⟨t', e, ht⟩ := hx i (V.ref t) p (by rw [e1, List.getElem?_map, h1]; rfl) h2
    cases e
    obtain ⟨its2, r2, ⟨o, ho, hc, n, hd⟩, _⟩ := I.tuple ht
    obtain ⟨u1, u2, rfl, ri, rj⟩ := vals2 r2
    obtain ⟨t1, rfl⟩ := ri
    obtain ⟨t2, rfl⟩ := rj
    exact ⟨t, o, t1, t2, n, rfl, ho, hc, hd⟩
  have ez := zip_of rv hlen at_
  have ek : its.map (keyOfH s.heap) = ps := by
    have := congrArg (List.map (·.2)) ez
    rw [List.map_map, List.map_snd_zip (by omega)] at this
    exact this.symm
  refine SrtO.sorted_pairsO (k := keyOfH s.heap) hl.isList (rv.length ▸ hz) (fun v hv => ?_) fun h' d out h1 h2 kp hd hn => ?_
  · obtain ⟨i, hi, e⟩ := List.getElem_of_mem hv
    have z := (at_ i v (ps[i]'(by omega)) (by rw [← e]; exact List.getElem?_eq_getElem hi) (List.getElem?_eq_getElem _)).2
    rw [keyOfH_eq z]
    exact z
  · obtain ⟨n, hn⟩ := hn
    have hv := vals_back (us := out) fun u hu => e2 u (h2.perm.mem_iff.mp hu)
    have hp : (out.map fun u => (backV u, keyOfH s.heap u)).Perm (xs.zip ps) := ez ▸ h2.perm.map _
    have hs2 : (out.map fun u => (backV u, keyOfH s.heap u)).map (·.2) = sortP ps := by
      rw [List.map_map]
      refine sortedP_uniq ((h2.perm.map (keyOfH s.heap)).trans (ek ▸ (sortP_perm ps).symm)) ?_ (sortP_sorted ps)
      refine List.pairwise_map.mpr (h1.imp fun {x y} z => ?_)
      show (!SrtO.lexB (keyOfH s.heap y) (keyOfH s.heap x)) = true
      rw [show SrtO.lexB (keyOfH s.heap y) (keyOfH s.heap x) = false from z]
      rfl
    have ht := q _ d hp hs2 (I.hok.fresh hd)
    rw [List.map_map] at ht
    refine ⟨.ref d, upd H d (.lst (out.map backV)), I.laid (t' := s.toks) kp hd ⟨?_, out, n, hv, hn⟩, rfl, ht⟩
    rw [List.length_map, h2.perm.length_eq, ← rv.length]
    exact hz
theorem zip_rep {K : PySem.W.Frag} {F : AS} {H : Hp} {xs : List V} {ps : List (Int × Int)} (l : RepL K F H (ps.map pairV) xs) : ∀ z ∈ xs.zip ps, Rep K F H (pairV z.2) z.1 := fun z hz => by
  obtain ⟨i, hi, e⟩ := List.getElem_of_mem hz
  have e' : (xs.zip ps)[i]? = some z := by rw [← e]; exact List.getElem?_eq_getElem hi
  obtain ⟨h1, h2⟩ := List.getElem?_zip_eq_some.mp e'
  obtain ⟨v, hv, r⟩ := l.get (i := i) (d := pairV z.2) (by rw [List.getElem?_map, h2]; rfl)
  rw [h1] at hv
  cases hv
  exact r
theorem repl_of {K : PySem.W.Frag} {F : AS} {H : Hp} : ∀ {zs : List (V × (Int × Int))}, (∀ z ∈ zs, Rep K F H (pairV z.2) z.1) → RepL K F H ((zs.map (·.2)).map pairV) (zs.map (·.1))
  | [], _ => .nil
  | z :: zs, h => .cons (h z List.mem_cons_self) (repl_of fun y hy => h y (List.mem_cons_of_mem _ hy))
theorem pair_at {K : PySem.W.Frag} {F : AS} {H : Hp} {p : Int × Int} {v : V} (r : Rep K F H (pairV p) v) : PairAt K H v p := by
  obtain ⟨a, vs, rfl, hH, l⟩ := rep_tuple' r
  have e := (AllOwn.of_rep l).ints (ns := [p.1, p.2]) rfl
  rw [e] at hH
  exact ⟨a, rfl, SqT.grow (Grow.refl F H) hH⟩
theorem own_pairs {K : PySem.W.Frag} {F : AS} {H : Hp} {n : Nat} : ∀ {ps : List (Int × Int)} {vs : List V} {B : List Addr}, AllOwn (Own K F H n) (ps.map pairV) vs B → RepL K F H (ps.map pairV) vs
  | [], _, _, .nil => .nil
  | p :: ps, _, _, .cons o t => .cons (own_still o rfl).2 (own_pairs t)
theorem cd_sortedP : CallD X (.builtin "sorted") sortedPD := by
  refine ⟨_, cr_sortedPT, fun F H vs ds c Q hd oc e q => ?_⟩
  match ds, e with
  | [(.list xs, n)], e =>
    simp only [sortedPD] at e
    cases hi : pairsD xs with
    | none => rw [hi] at e; cases e
    | some ps =>
      rw [hi] at e
      cases e
      obtain ⟨v, A, rfl, o⟩ := owns1 oc
      obtain ⟨a, us, B, rfl, r, l⟩ := own_list o
      have ex := pairsD_some hi
      subst ex
      have lr := own_pairs l
      refine ⟨a, us, ps, rfl, r, by rw [lr.length, List.length_map], fun i x p h1 h2 => ?_, fun zs p hp hs hn => ?_⟩
      · obtain ⟨v, hv, rp⟩ := lr.get (i := i) (d := pairV p) (by rw [List.getElem?_map, h2]; rfl)
        rw [h1] at hv
        cases hv
        exact pair_at rp
      · have rl : RepL X.K F H ((sortP ps).map pairV) (zs.map (·.1)) := by
          rw [← hs]
          exact repl_of fun z hz => zip_rep lr z (hp.mem_iff.mp hz)
        obtain ⟨al, ow⟩ := alloc_list hn hd rl
        exact q _ _ _ _ al ow
def sortedD (ds : List (D × Nat)) : Option (D × Nat) := (sortedI ds).or (sortedPD ds)
theorem cd_sorted : CallD X (.builtin "sorted") sortedD := cd_sortedI.or cd_sortedP
end
end DL

namespace DL
open PySem PySem.Spec PyProof.Rows L2

/-! ### a comprehension whose items are new lists: they stay owned -/
def compO (g : D → Nat → Env' → Res Env') (f : Env' → Res (D × Nat × Env')) (vs : List Nat) : List D → Env' → Res (List D × Env')
  | [], ρ => .ok ([], ρ)
  | d :: ds, ρ => match g d 0 ρ with
    | .ok ρ1 => noExc (f ρ1) >>= fun y => if y.2.1 = 1 then compO g f vs ds (wipeD y.2.2 vs) >>= fun z => .ok (y.1 :: z.1, z.2) else .stuck
    | _ => .stuck
def lcO (fi : Env' → Res (List D × Env')) (g : D → Nat → Env' → Res Env') (f : Env' → Res (D × Nat × Env')) (vs : List Nat) : Env' → Res (D × Nat × Env') := fun ρ => fi ρ >>= fun r => if r.1.length ≤ line then compO g f vs r.1 (wipeD r.2 vs) >>= fun z => .ok (.list z.1, 2, restD r.2 z.2 vs) else .stuck
section
variable {X : Cx} {E : Exs} {tg iter elt : Expr} {scope : Scope} {own : List (Str × Nat)} {pos : Pos} {W : Nat → Bool}
theorem lcO_end {vs ws : List Nat} {fi : Env' → Res (List D × Env')} {g : D → Nat → Env' → Res Env'} {f : Env' → Res (D × Nat × Env')} (hw : ∀ i ∈ ws, i ∈ vs)
    {ρ : Env'} {F P : AS} {σ : L2.St} {H : Hp} {Q : VK} (hl : ρ.length = X.N.length) (r : Rel X.K F P ρ σ H)
    (h : Post X E F P σ H (lcO fi g f vs ρ) (fun r => ∀ v H' F' A, Step F P H F' H' → RelX X.K F' P r.2.2 σ H' A → Own X.K F' H' r.2.1 r.1 v A → Q v H')) :
    tLc (canI X E fi) (canG X ws g) (canT X E00 yesT) (canE X E00 f) vs σ H Q := by
  refine ⟨ρ, F, P, hl, r, h.bind.same fun q hq J H0 F0 st0 r0 it L hL => ?_⟩
  by_cases hz : q.1.length ≤ line
  case neg => rw [if_neg hz] at hq; exact hq.elim
  rw [if_pos hz] at hq
  have l0 : q.2.length = X.N.length := rel_len r hl r0
  obtain ⟨al, ow⟩ := alloc_list (K := X.K) hL (fun a f => r0.dom a (.inl f)) .nil
  have r1 := al.rel r0
  have st1 := al.step r0
  refine ⟨fun i m H1 => m = q.1.length - i ∧ i ≤ q.1.length ∧ ∃ (ρ1 : Env') (F1 : AS) (acc : List V) (es : List D) (B : List Addr), ρ1.length = X.N.length ∧ Step F0 P H0 F1 H1 ∧ RelX X.K F1 P ρ1 (wipe σ vs) H1 (L :: B) ∧ H1 L = some (.lst acc) ∧ AllOwn (Own X.K F1 H1 1) es acc B ∧ acc.length ≤ i ∧
    Post X E F0 P σ H0 (compO g f vs (q.1.drop i) ρ1) (fun z => ∀ v H' F' A, Step F0 P H0 F' H' → RelX X.K F' P z.2 (wipe σ vs) H' A → Own X.K F' H' 2 (.list (es ++ z.1)) v A → Q v H'),
    ⟨q.1.length, rfl, Nat.zero_le _, wipeD q.2 vs, F0, [], [], [], by rw [wipeD_length]; exact l0, st1, r1.wipe rfl, upd_same, .nil, Nat.le_refl _, ?_⟩, ?_⟩
  · exact (hq.bind.imp st0 (fun _ z => z) fun z hz' v H' F' A st' r' o' => hz' v H' F' A (st0.trans st') (r0.rest st'.grow r') o')
  · rintro i m H1 ⟨em, hi, ρ1, F1, acc, es, B, l1, st, r1, hLL, rp, ha, h1⟩
    have nFB : ∀ a ∈ L :: B, ¬ F1 a ∧ ¬ P a := fun a ha => r1.2.2.2.elim fun w z => (z.2.2 a ha).2
    have nB := r1.2.2.1
    have th : ∀ a ∈ L :: B, H1 a ≠ none := fun a ha => by
      rcases List.mem_cons.mp ha with e | e
      · rw [e, hLL]; exact fun z => by cases z
      · exact AllOwn.there (fun o => Own.there o) rp a e
    obtain ⟨it1, it2⟩ := it i H1 F1 st.grow fun a z => r1.dom a (.inl z)
    by_cases hlt : i < q.1.length
    · obtain ⟨go, yl⟩ := it1 _ (List.getElem?_eq_getElem hlt)
      rw [List.drop_eq_getElem_cons hlt] at h1
      simp only [compO] at h1
      refine .inr ⟨go, fun H' => ∃ (ρ1 : Env') (F1 : AS) (acc : List V) (es : List D) (B : List Addr), ρ1.length = X.N.length ∧ Step F0 P H0 F1 H' ∧ RelX X.K F1 P ρ1 (wipe σ vs) H' (L :: B) ∧ H' L = some (.lst acc) ∧ AllOwn (Own X.K F1 H' 1) es acc B ∧ acc.length ≤ i + 1 ∧
        Post X E F0 P σ H0 (compO g f vs (q.1.drop (i + 1)) ρ1) (fun z => ∀ v H'' F' A, Step F0 P H0 F' H'' → RelX X.K F' P z.2 (wipe σ vs) H'' A → Own X.K F' H'' 2 (.list (es ++ z.1)) v A → Q v H''),
        fun H' z => ⟨q.1.length - (i + 1), by omega, rfl, hlt, z⟩, fun x H2 hy => ?_⟩
      obtain ⟨F2, al2, rpx⟩ := yl x H2 hy
      have hr := r1.hold th
      have r2 := al2.rel hr
      have s2 := al2.step hr
      cases eg : g q.1[i] 0 ρ1 with
      | exc y z => rw [eg] at h1; exact h1.elim
      | stuck => rw [eg] at h1; exact h1.elim
      | ok ρ2 =>
        rw [eg] at h1
        dsimp only at h1
        refine ⟨ρ1, ρ2, F2, _, q.1[i], 0, [], l1, r2, ⟨rfl, rpx⟩, eg, fun σ3 F3 H3 hσ s3 r3 => ?_⟩
        have ew : wipe σ3 vs = wipe σ vs := wipe_eq (by rw [hσ.1, wipe_length]) fun j hj => by rw [hσ.2 j fun z => hj (hw j z), wipe_get hj]
        have l3 : ρ2.length = X.N.length := by rw [r3.1, hσ.1, ← r1.1, l1]
        have s13 := s2.trans s3
        refine ⟨ew, ρ2, F3, _, l3, r3, ?_⟩
        intro H4 F4 s4 r4
        rw [if_pos rfl]
        have l4 := rel_len r3 l3 r4
        have s14 := s13.trans s4
        refine ⟨ρ2, F4, _, l4, r4, ?_⟩
        cases ef : f ρ2 with
        | stuck => rw [ef] at h1; exact h1.elim
        | exc y z => rw [ef] at h1; exact h1.elim
        | ok y =>
        rw [ef] at h1
        simp only [noExc_ok, bind_ok] at h1
        by_cases z1 : y.2.1 = 1
        case neg => rw [if_neg z1] at h1; exact h1.elim
        rw [if_pos z1] at h1
        intro v H5 F5 A s5 r5 o5
        rw [z1] at o5
        have s15 := s14.trans s5
        have keep : ∀ a ∈ L :: B, H5 a = H1 a := fun a ha => s15.prot a (.inr ha)
        have nF5 : ∀ a ∈ L :: B, ¬ F5 a := fun a ha z => (s15.fresh a z).elim (nFB a ha).1 fun w => w (.inr ha)
        have eL : H5 L = some (.lst acc) := (keep L List.mem_cons_self).trans hLL
        have r7 := r5.unhold (A := L :: B) nB fun a ha => ⟨nF5 a ha, (nFB a ha).2⟩
        have all7 : ∀ a ∈ (L :: B) ++ A, ¬ F5 a := fun a ha => r7.2.2.2.elim fun w z => (z.2.2 a ha).2.1
        have ef7 : Eff F5 H5 ((L :: B) ++ A) F5 (upd H5 L (.lst (acc ++ [v]))) ((L :: B) ++ A) := ⟨fun a o q n => by rw [upd_ne (fun z => n (by rw [z]; simp))]; exact q, fun _ w => w, fun _ w => .inl w, fun a ha => ⟨.inr ha, all7 a ha⟩, r7.2.2.1, fun a w => upd_some (r7.dom a (.inl w)), fun a us q => by rw [upd_ne fun e => by rw [e, eL] at q; cases q]; exact q⟩
        have r8 := (ef7.rel r7).wipe ew
        have g8 := ef7.growF r7
        have nL : ∀ a ∈ B ++ A, a ≠ L := fun a ha e => by
          have := (List.nodup_cons.mp (show (L :: (B ++ A)).Nodup from r7.2.2.1)).1
          exact this (by rw [← e]; exact ha)
        have up : ∀ a ∈ B ++ A, upd H5 L (.lst (acc ++ [v])) a = H5 a := fun a ha => upd_ne (nL a ha)
        have rpB : AllOwn (Own X.K F5 (upd H5 L (.lst (acc ++ [v]))) 1) es acc B := rp.imp fun d w C hC o => o.mono (s15.grow.trans g8) fun a ha => (up a (List.mem_append_left _ (hC a ha))).trans (keep a (List.mem_cons_of_mem _ (hC a ha)))
        have oA : Own X.K F5 (upd H5 L (.lst (acc ++ [v]))) 1 y.1 v A := o5.mono g8 fun a ha => up a (List.mem_append_right _ ha)
        refine ⟨acc, eL, ?_, wipeD y.2.2 vs, F5, acc ++ [v], es ++ [y.1], B ++ A, by rw [wipeD_length]; exact rel_len r4 l4 r5, (st.trans (s15.less fun _ w => .inl w)).trans (ef7.step r7), r8, upd_same, ?_, by rw [List.length_append]; show acc.length + 1 ≤ i + 1; omega, ?_⟩
        · rw [line_eq]
          show acc.length < 16777216
          have : q.1.length ≤ 16777216 := hz
          omega
        · have := AllOwn.append rpB (AllOwn.cons oA AllOwn.nil)
          rw [List.append_nil] at this
          exact this
        · refine h1.bind.same fun w hw' v' H' F' A' st' r' o' => hw' v' H' F' A' st' r' ?_
          rw [List.append_assoc] at o'
          exact o'
    · have ei : i = q.1.length := by omega
      rw [List.drop_eq_nil_of_le (by omega)] at h1
      exact .inl ⟨it2 (by omega), h1 _ H1 F1 (L :: B) st r1 (by rw [List.append_nil]; exact .inr (.inl ⟨es, L, acc, B, rfl, rfl, hLL, rfl, rp⟩))⟩
theorem de_lcO {ws : List Nat} {fi : Env' → Res (List D × Env')} {g : D → Nat → Env' → Res Env'} {f : Env' → Res (D × Nat × Env')} (hc : X.calm = true) (hN : X.N.Nodup) (hi : DI X E tg iter fi) (ok : BlkOk X.N X.env.scope scope own)
    (hg : ∀ (s : Shared) (H : Hp) (C : Addr) (cl : List (Str × Addr)) (fp : List Addr), DG (X.blk s H scope (compEnvC scope cl C X.env) fp) tg ws g)
    (he : ∀ (s : Shared) (H : Hp) (C : Addr) (cl : List (Str × Addr)) (fp : List Addr), DE (X.blk s H scope (compEnvC scope cl C X.env) fp) E00 elt f) (hw : ∀ i ∈ ws, i ∈ own.map (·.2) := by decide) (hs : ∀ x, foldedSetIterable iter X.env x = pure x := by intro _; rfl) :
    DE X E (.ListComp elt [⟨tg, iter, [], 0⟩] scope pos) (lcO fi g f (own.map (·.2))) := by
  refine ⟨_, pe_lc (g := canG X ws g) (tt := canT X E00 yesT) (te := canE X E00 f) hc hN hi.can ok (fun s H C cl fp => (hg s H C cl fp).can) (fun s H C cl fp => (dts_nil (E := E00)).can) (fun s H C cl fp => (he s H C cl fp).can) hs, fun ρ F P σ H Q hl r h => lcO_end hw hl r h⟩
/-- name = [[] ..] -/
theorem ds_setLcO (i : Nat) {y : Str} {py : Pos} {spos : Pos} {ws : List Nat} {fi : Env' → Res (List D × Env')} {g : D → Nat → Env' → Res Env'} {f : Env' → Res (D × Nat × Env')} (hc : X.calm = true) (hN : X.N.Nodup) (hyl : X.env.scope.names.lookup y = some .local)
    (hsw : swapsWith (.ListComp elt [⟨tg, iter, [], 0⟩] scope pos) (some (.Name y py)) spos.line X.env = pure true) (hi : DI X E tg iter fi) (ok : BlkOk X.N X.env.scope scope own)
    (hg : ∀ (s : Shared) (H : Hp) (C : Addr) (cl : List (Str × Addr)) (fp : List Addr), DG (X.blk s H scope (compEnvC scope cl C X.env) fp) tg ws g)
    (he : ∀ (s : Shared) (H : Hp) (C : Addr) (cl : List (Str × Addr)) (fp : List Addr), DE (X.blk s H scope (compEnvC scope cl C X.env) fp) E00 elt f) (hy : X.N[i]? = some y := by rfl) (hw : ∀ i ∈ ws, i ∈ own.map (·.2) := by decide) (hs : ∀ x, foldedSetIterable iter X.env x = pure x := by intro _; rfl) (hW : ∀ j ∈ [i], W j = true := by decide) :
    DS X E W (.Assign [.Name y py] (.ListComp elt [⟨tg, iter, [], 0⟩] scope pos) spos) (asgF (lcO fi g f (own.map (·.2))) (gNameD i)) := by
  refine ⟨_, ps_setLc (g := canG X ws g) (tt := canT X E00 yesT) (te := canE X E00 f) hc hN hy hyl hsw hi.can ok (fun s H C cl fp => (hg s H C cl fp).can) (fun s H C cl fp => (dts_nil (E := E00)).can) (fun s H C cl fp => (he s H C cl fp).can) hs, fun ρ F P σ H Dn hl r h => ?_⟩
  refine asg_end (tg := .Name y py) (vs := [i]) hW (fun ρ F P σ H Q hl r h => lcO_end hw hl r h) (fun ρ ρ' F P σ H v d n A Q hl r o e q => ?_) hl r h
  cases e
  have hlt : i < ρ.length := by rw [hl]; exact (List.getElem?_eq_some_iff.mp hy).1
  refine q _ F H ⟨List.length_set .., fun j hj => ?_⟩ Step.refl (RelX.put (B := []) (by rw [List.append_nil]; exact r) hlt o)
  rw [List.getElem?_set_ne (by simpa using fun z => hj (by simp [z]))]
/-! ### a, b, c = x, y, z -/
theorem ds_par3 (i j k : Nat) {a b c : Expr} {x y z : Str} {px py pz pt : Pos} {kt k2 pt2} {f : Env' → Res (List (D × Nat) × Env')} (hc : X.calm = true) (hN : X.N.Nodup) (ha : DAO X E [a, b, c] f) (hw : swappedStores [.Tuple [.Name x px, .Name y py, .Name z pz] kt pt] (.Tuple [a, b, c] k2 pt2) X.env = pure (some [x, y, z]))
    (hi : X.N[i]? = some x := by rfl) (hj : X.N[j]? = some y := by rfl) (hk : X.N[k]? = some z := by rfl) (hij : i ≠ j := by decide) (hik : i ≠ k := by decide) (hjk : j ≠ k := by decide)
    (hx : X.env.scope.names.lookup x = some .local := by rfl) (hy : X.env.scope.names.lookup y = some .local := by rfl) (hz : X.env.scope.names.lookup z = some .local := by rfl)
    (hs : swapsWithSole [.Tuple [.Name x px, .Name y py, .Name z pz] kt pt] (.Tuple [a, b, c] k2 pt2) pos.line X.env = pure false := by rfl) (hW : W i = true ∧ W j = true ∧ W k = true := by decide) :
    DS X E W (.Assign [.Tuple [.Name x px, .Name y py, .Name z pz] kt pt] (.Tuple [a, b, c] k2 pt2) pos) (par3F i j k f) := by
  obtain ⟨t, pa, qa⟩ := ha
  refine ⟨_, ps_par3 hc hN hi hj hk hij hik hjk hx hy hz pa hw hs, fun ρ F P σ H Dn hl r h => qa ρ F P σ H _ hl r (PostS.of h |>.same fun q hq vs H1 F1 A st r1 l => ?_)⟩
  have l1 : q.2.length = X.N.length := rel_len r hl r1
  have hil : i < q.2.length := by rw [l1]; exact (List.getElem?_eq_some_iff.mp hi).1
  have hjl : j < q.2.length := by rw [l1]; exact (List.getElem?_eq_some_iff.mp hj).1
  have hkl : k < q.2.length := by rw [l1]; exact (List.getElem?_eq_some_iff.mp hk).1
  obtain ⟨ds, ρ1⟩ := q
  match ds, hq, l with
  | [x, y, z], hq, l =>
    cases l with
    | cons o1 l1' =>
      cases l1' with
      | cons o2 l2' =>
        cases l2' with
        | cons o3 l3' =>
          cases l3'
          refine ⟨_, _, _, rfl, ?_⟩
          have ra := r1.put hil o1
          have rb := ra.put (by rw [List.length_set]; exact hjl) o2
          have rc := rb.put (by rw [List.length_set, List.length_set]; exact hkl) o3
          exact hq _ H1 F1 (fun m hm => by rw [List.getElem?_set_ne (fun z => by rw [← z, hW.2.2] at hm; cases hm), List.getElem?_set_ne (fun z => by rw [← z, hW.2.1] at hm; cases hm), List.getElem?_set_ne (fun z => by rw [← z, hW.1] at hm; cases hm)]) st rc (by rw [List.length_set, List.length_set, List.length_set]; exact l1)
  | [], hq, l => exact hq.elim
  | [_], hq, l => exact hq.elim
  | [_, _], hq, l => exact hq.elim
  | _ :: _ :: _ :: _ :: _, hq, l => exact hq.elim
end
end DL

namespace DL
open PySem PySem.Spec PyProof.Rows L2

/-! ### f(k = v, ..) -/
def permF {α : Type} (π : List Nat) (xs : List α) : List α := π.filterMap fun i => xs[i]?
theorem paired_perm' {α β : Type} {R : α → β → Prop} {xs : List α} {ys : List β} (h : ∀ i : Nat, (∃ x y, xs[i]? = some x ∧ ys[i]? = some y ∧ R x y) ∨ (xs[i]? = none ∧ ys[i]? = none)) : ∀ π : List Nat, Paired R (permF π xs) (permF π ys)
  | [] => .nil
  | i :: π => by
    have t := paired_perm' h π
    unfold permF at t ⊢
    rcases h i with ⟨x, y, e1, e2, r⟩ | ⟨e1, e2⟩
    · rw [List.filterMap_cons_some e1, List.filterMap_cons_some e2]
      exact .cons r t
    · rw [List.filterMap_cons_none e1, List.filterMap_cons_none e2]
      exact t
theorem paired_at {α β : Type} {R : α → β → Prop} {xs : List α} {ys : List β} (h : Paired R xs ys) : ∀ i : Nat, (∃ x y, xs[i]? = some x ∧ ys[i]? = some y ∧ R x y) ∨ (xs[i]? = none ∧ ys[i]? = none) := by
  induction h with
  | nil => intro i; exact .inr ⟨by simp, by simp⟩
  | cons r t ih =>
    intro i
    cases i with
    | zero => exact .inl ⟨_, _, rfl, rfl, r⟩
    | succ i => simpa using ih i
theorem repl_paired {K : PySem.W.Frag} {F : AS} {H : Hp} : ∀ {ds : List D} {vs : List V}, RepL K F H ds vs → Paired (Rep K F H) ds vs
  | _, _, .nil => .nil
  | _, _, .cons h t => .cons h (repl_paired t)
theorem paired_repl {K : PySem.W.Frag} {F : AS} {H : Hp} {ds : List D} {vs : List V} (h : Paired (Rep K F H) ds vs) : RepL K F H ds vs := by
  induction h with
  | nil => exact .nil
  | cons h t ih => exact .cons h ih
theorem repl_perm {K : PySem.W.Frag} {F : AS} {H : Hp} {ds : List D} {vs : List V} (h : RepL K F H ds vs) (π : List Nat) : RepL K F H (permF π ds) (permF π vs) := paired_repl (paired_perm' (paired_at (repl_paired h)) π)
theorem kb_of {K : PySem.W.Frag} {x qual : Str} {st : Stmt} {f : Addr} {fd : FuncData} {ps ks : List Str} (F : FnP K x qual st f fd) (π : List Nat)
    (h : ∀ (kV doc pm : Value) (an : Option Addr) (cdv ct : Value) (ws : List Value), ws.length = ks.length → bindArgs (PySem.W.fnOf x qual (defArgs st) (defBody st) (defScope st) .none kV doc pm an cdv ct) ⟨[], ks.zip ws⟩ = pure (ps.zip (permF π ws))) :
    KBn K fd ps 0 ks (fun _ ws => permF π ws) (fun _ zs => permF π zs) := by
  obtain ⟨oc, od, dV, kV, doc, pm, an, cdv, ct, osl, rfl, lk, hcd, hD, hK⟩ := F.ex
  rcases hD with ⟨_, rfl⟩ | ⟨e, _⟩
  case inr => exact absurd rfl e
  refine ⟨fun s us ws hk hu hw => ?_, fun {vs us zs ws} _ r => paired_perm' (paired_at r) π⟩
  have : us = [] := List.eq_nil_of_length_eq_zero hu
  subst this
  exact .of_eq (h kV doc pm an cdv ct ws hw)
structure DKw (X : Cx) (E : Exs) (kws : List Keyword) (f : Env' → Res (List D × Env')) : Prop where
  ex : ∃ t, PK X kws t ∧ ∀ (ρ : Env') (F P : AS) (σ : L2.St) (H : Hp) (Q : List V → Hp → Prop), ρ.length = X.N.length → Rel X.K F P ρ σ H →
    Post X E F P σ H (f ρ) (fun r => ∀ vs H' F', Step F P H F' H' → Rel X.K F' P r.2 σ H' → RepL X.K F' H' r.1 vs → Q vs H') → t σ H Q
section
variable {X : Cx} {E : Exs} {a : Expr} {pos p kp : Pos} {x : Str} {nm : Option Str} {kws : List Keyword}
theorem dkw_nil : DKw X E [] fun ρ => .ok ([], ρ) := ⟨_, pk_nil, fun ρ F P σ H Q hl r h => h [] H F Step.refl r .nil⟩
theorem dkw_cons {f : Env' → Res (D × Nat × Env')} {g : Env' → Res (List D × Env')} (ha : DE X E a f) (hb : DKw X E kws g) : DKw X E (⟨nm, a, kp⟩ :: kws) fun ρ => f ρ >>= fun x => g x.2.2 >>= fun y => .ok (x.1 :: y.1, y.2) := by
  obtain ⟨ta, pa, qa⟩ := ha
  obtain ⟨tb, pb, qb⟩ := hb
  refine ⟨_, pk_cons pa pb, fun ρ F P σ H Q hl r h => qa ρ F P σ H _ hl r (h.bind.same fun x hx v H1 F1 A st1 r1 o1 => ?_)⟩
  obtain ⟨st2, r2⟩ := r1.freeze o1.there
  refine qb x.2.2 _ P σ H1 _ (rel_len r hl r1) r2 (hx.bind.imp (st1.trans st2) (fun a z => z) fun y hy vs H3 F3 st3 r3 l => ?_)
  exact hy (v :: vs) H3 F3 ((st1.trans st2).trans st3) r3 (.cons ((o1.rep (F' := fun a => F1 a ∨ a ∈ A) (fun a h => .inl h) fun a h => .inr h).mono st3.grow) l)
variable {CX : CXT} {k : Nat} {f : Addr} {fd : FuncData} {ps ks : List Str}
def tCallK0 (m : Nat) (sp : Sp) (gV : List V → List V → List V) (E : XK) (tk : TA) : TE := fun σ H Q => tk σ H fun zs H2 => zs.length = m ∧ sp (gV [] zs) H2 Q E
theorem pe_callK0 {sp : Sp} {E1 : XK} {g : List Value → List Value → List Value} {gV : List V → List V → List V} {tk : TA} (F : FnOk X.prog X.w X.K X.mg X.base CX k f fd ps sp) (hr : Room k X.A) (hm : X.mg x = some (.ref f)) (hk : PySem.W.keepIn X.K (.ref f) = true) (hb : KBn X.K fd ps 0 ks g gV) (hx : Passes CX X E1)
    (hkw : PK X kws tk) (hg : Gl X x := by rfl) (hall : (backToKw pos (keywordEach kws X.env)).all (·.1.isSome) = true := by rfl) (hks : (backToKw pos (keywordEach kws X.env)).filterMap (·.1) = ks := by rfl)
    (hdb : (x == ("__debug__" : Str)) = false := by decide) (hpl : ((backTo pos (starEach [] X.env)).any (·.1) || (backToKw pos (keywordEach kws X.env)).any (·.1.isNone)) = false := by rfl) :
    PE X (.Call (.Name x p) [] kws pos) (tCallK0 ks.length sp gV E1 tk) := by
  refine ⟨fun pins s σ H Q I h => wpAny_Call_Name_kw (ld_glob I hg hm ?_ hdb)⟩
  refine PySem.W.callWith_KW0 (h₀ := X.base) I.ok.mod.kin hk hall (thn (hkw.run pos pins s σ H _ I h) fun ws s2 ⟨zs, H2, I2, rz, l2, q2⟩ => ⟨I2.kIn, ?_⟩) hpl
  rw [hks]
  exact run_fnN (us := []) (vs := []) F hr hb hx I2 .nil rz rfl l2 q2
theorem de_callK0 {E1 : XK} {n : Nat} {π : List Nat} {g : List D → Res (D × Nat)} {fa : Env' → Res (List D × Env')} (G : FnOk X.prog X.w X.K X.mg X.base CX k f fd ps (SpD X.K X.mg n g)) (hr : Room k X.A) (hm : X.mg x = some (.ref f)) (hk : PySem.W.keepIn X.K (.ref f) = true) (hb : KBn X.K fd ps 0 ks (fun _ ws => permF π ws) (fun _ zs => permF π zs))
    (hx : Passes CX X E1) (ha : DKw X (fun _ => E1) kws fa) (hg : Gl X x := by rfl) (hall : (backToKw pos (keywordEach kws X.env)).all (·.1.isSome) = true := by rfl) (hks : (backToKw pos (keywordEach kws X.env)).filterMap (·.1) = ks := by rfl)
    (hdb : (x == ("__debug__" : Str)) = false := by decide) (hpl : ((backTo pos (starEach [] X.env)).any (·.1) || (backToKw pos (keywordEach kws X.env)).any (·.1.isNone)) = false := by rfl) :
    DE X (fun _ => E1) (.Call (.Name x p) [] kws pos) fun ρ => fa ρ >>= fun r => if r.1.length = ks.length ∧ (permF π r.1).length = n then callR (g (permF π r.1)) r.2 else .stuck := by
  obtain ⟨t, pa, qa⟩ := ha
  refine ⟨_, pe_callK0 G hr hm hk hb hx pa hg hall hks hdb hpl, fun ρ F P σ H Q hl r h => ?_⟩
  refine qa ρ F P σ H _ hl r (h.bind.same fun q h vs H1 F1 st r1 l => ?_)
  by_cases hlen : q.1.length = ks.length ∧ (permF π q.1).length = n
  case neg => rw [if_neg hlen] at h; exact h.elim
  rw [if_pos hlen] at h
  refine ⟨l.length.trans hlen.1, permF π q.1, F1, hlen.2, repl_perm l π, fun a z => r1.dom a (.inl z), ?_⟩
  cases hgv : g (permF π q.1) with
  | stuck => rw [hgv] at h; exact h.elim
  | exc y z =>
    rw [hgv] at h
    intro cls dx H' F' al ex
    exact h cls dx H' F' (st.trans (al.step r1)) (al.rel r1) ex
  | ok c =>
    rw [hgv] at h
    intro v H' F' A al o
    exact h v H' F' A (st.trans (al.step r1)) (al.rel r1) o
end
end DL

namespace DL
open PySem PySem.Spec PyProof.Rows L2

/-! ### a def that draws: its first argument is a list whose first item is a list, and that item stands at a name meanwhile -/
/-- name = name0[0], for a list's list -/
structure DAl (X : Cx) (st : Stmt) : Prop where
  ex : ∃ t, PS X st t ∧ ∀ (σ : L2.St) (H : Hp) (a b : Addr) (xs : List V) (Dn : Ends), σ[0]? = some (some (.ref a)) → H a = some (.lst (.ref b :: xs)) → Dn.nx (σ.set 2 (some (.ref b))) H → t Dn σ H
/-- name0[k] = e, e does not change the heap -/
structure DSetI (X : Cx) (k : Nat) (st : Stmt) (h : Env' → Option (D × Nat)) : Prop where
  ex : ∃ t, PS X st t ∧ ∀ (ρ : Env') (F P : AS) (σ : L2.St) (H : Hp) (Dn : Ends) (d : D) (n : Nat) (a : Addr) (xs : List V), ρ.length = X.N.length → Rel X.K F P ρ σ H → h ρ = some (d, n) → σ[0]? = some (some (.ref a)) → H a = some (.lst xs) → k < xs.length → xs.length = 3 →
    (∀ v A, Own X.K F H n d v A → Dn.nx σ (upd H a (.lst (xs.set k v)))) → t Dn σ H
section
variable {X : Cx}
theorem dal {x y : Str} {p1 p2 p3 p4 p5 : Pos} {j} (hN : X.N.Nodup) (hi : X.N[2]? = some y := by rfl) (h0 : X.N[0]? = some x := by rfl) (hv : Vis X.env.scope x := by first | exact Or.inl rfl | exact Or.inr (Or.inl rfl) | exact Or.inr (Or.inr rfl)) (hd : (x == ("__debug__" : Str)) = false := by decide) (hcd : (x == ("__classdict__" : Str)) = false := by decide)
    (hy : Loc X.env.scope y := by first | exact Or.inl rfl | exact Or.inr rfl) (hs : swapsWith (.Subscript (.Name x p2) (.Constant (.int 0) j p3) p4) (some (.Name y p1)) p5.line X.env = pure false := by rfl)
    (hf : X.fn y = true ∨ X.env.scope.names.lookup y = some .local := by first | exact .inl rfl | exact .inr rfl | assumption) (hpl : PlainIx (.Constant (.int 0) j p3) := by exact fun _ _ => rfl) : DAl X (.Assign [.Name y p1] (.Subscript (.Name x p2) (.Constant (.int 0) j p3) p4) p5) :=
  ⟨_, ps_set hN hi hy (pe_ix ix_seq (pe_var h0 hv hd hcd) pe_int hpl) hs hf, fun σ H a b xs Dn e hH q => ⟨_, e, .inl ⟨a, .ref b :: xs, 0, .ref b, rfl, rfl, .inl (.inl hH), (by simp [atI, ixN]), q⟩⟩⟩
theorem dsetI (k : Nat) {x : Str} {p p3 p4 p5 : Pos} {j} {e : Expr} {h : Env' → Option (D × Nat)} (he : DP X e h) (h0 : X.N[0]? = some x := by rfl) (hv : Vis X.env.scope x := by first | exact Or.inl rfl | exact Or.inr (Or.inl rfl) | exact Or.inr (Or.inr rfl)) (hd : (x == ("__debug__" : Str)) = false := by decide) (hcd : (x == ("__classdict__" : Str)) = false := by decide)
    (ha : ∀ v, assign (.Subscript (.Name x p) (.Constant (.int (k : Nat)) j p3) p4) X.env v = (do
      let ov ← holding [v] (eval (.Name x p) X.env)
      let iv ← holding [v, ov] (eval (.Constant (.int (k : Nat)) j p3) X.env)
      standAt p4
      holding [v, ov, iv] (setItem ov iv v)
      release [v, ov, iv] []) := by intro _; rfl) (hs : swapsWithSole [.Subscript (.Name x p) (.Constant (.int (k : Nat)) j p3) p4] e p5.line X.env = pure false := by rfl) (hw : swappedStores [.Subscript (.Name x p) (.Constant (.int (k : Nat)) j p3) p4] e X.env = pure none := by rfl)
    (h1 : (assignEach [.Subscript (.Name x p) (.Constant (.int (k : Nat)) j p3) p4] X.env).map (·.2) = [assign (.Subscript (.Name x p) (.Constant (.int (k : Nat)) j p3) p4) X.env] := by rfl) :
    DSetI X k (.Assign [.Subscript (.Name x p) (.Constant (.int (k : Nat)) j p3) p4] e p5) h := by
  obtain ⟨t, pe, q⟩ := he
  refine ⟨_, ps_asg pe (pg_sub (pe_var h0 hv hd hcd) pe_int set_list ha) hs hw h1, fun ρ F P σ H Dn d n a xs hl r e h0' hH hk h3 go => ?_⟩
  refine q ρ F P σ H _ d n hl r e fun v A o => ⟨_, h0', a, xs, k, k, rfl, rfl, hH, ?_, go v A o⟩
  unfold ixN
  rw [h3]
  have : k < 3 := by omega
  match k, this with
  | 0, _ => rfl
  | 1, _ => rfl
  | 2, _ => rfl
end
def env1 (g : List D) (m : Int) : Env' := [none, some (.int m, 0), some (.list g, 1), none]
def env2 (g : List D) (x y m : Int) : Env' := [some (.list [.list g, .int x, .int y], 0), some (.int m, 0), none, none]
def greatOf (ρ : Env') : Res (List D) := match getS ρ 2 with
  | some (.list g, 1) => .ok g
  | _ => .stuck
def intO (x : Option (D × Nat)) : Res Int := match x with
  | some (.int i, _) => .ok i
  | _ => .stuck
def aliasA : List D → Option (List D × Int × Int × Int)
  | [.list [.list g, .int x, .int y], .int m] => some (g, x, y, m)
  | _ => none
theorem aliasA_some {ds : List D} {g : List D} {x y m : Int} (h : aliasA ds = some (g, x, y, m)) : ds = [.list [.list g, .int x, .int y], .int m] := by
  unfold aliasA at h
  split at h
  · cases h; rfl
  · cases h
/-- what it answers, and what is left -/
def aliasF (f2 f3 : Env' → Res (Fl × Env')) (h4 h5 h6 : Env' → Option (D × Nat)) : List D → Res ((D × Nat) × D) := fun ds => match aliasA ds with
  | some (g, x, y, m) => f2 (env1 g m) >>= fun r2 => match r2.1 with
    | .nx => f3 r2.2 >>= fun r3 => greatOf r3.2 >>= fun g' => match r3.1 with
      | .rt (.int d) _ => .ok ((.int d, 0), .list [.list g', .int x, .int y])
      | .nx => intO (h4 (env2 g' x y m)) >>= fun y' => intO (h5 (env2 g' x y' m)) >>= fun x' => intO (h6 (env2 g' x' y' m)) >>= fun d => .ok ((.int d, 0), .list [.list g', .int x', .int y'])
      | _ => .stuck
    | _ => .stuck
  | none => .stuck
section
variable {K : PySem.W.Frag} {F P : AS} {H : Hp}
theorem greatOf_some {ρ : Env'} {g : List D} (h : greatOf ρ = .ok g) : getS ρ 2 = some (.list g, 1) := by
  unfold greatOf at h
  split at h
  · rename_i e; cases h; exact e
  · cases h
theorem intO_some {x : Option (D × Nat)} {i : Int} (h : intO x = .ok i) : ∃ n, x = some (.int i, n) := by
  unfold intO at h
  split at h
  · cases h; exact ⟨_, rfl⟩
  · cases h
theorem view1 {a b : Addr} {g : List D} {us : List V} {m : Int} {vm : V} {σ : L2.St} (hb : H b = some (.lst us)) (l : RepL K F H g us) (hd : ∀ x, F x → H x ≠ none) (nb : ¬ F b) (s : σ = [some (.ref a), some (.int m), some (.ref b), none]) :
    Rel K F (fun x => H x ≠ none ∧ x ≠ b) (env1 g m) σ H := by
  subst s
  refine ⟨rfl, fun x z => z.elim (hd x) (·.1), List.nodup_nil, fun x => if x = b then some 2 else none, fun i d n e => ?_, fun x i e => ?_, fun x hx => (by cases hx)⟩
  · match i, e with
    | 0, e => cases e
    | 1, e => cases e; exact ⟨_, [], rfl, ⟨rfl, .int m⟩, List.nodup_nil, fun x hx => (by cases hx)⟩
    | 2, e => cases e; exact ⟨_, [b], rfl, .inr (.inl ⟨g, b, us, [], rfl, rfl, hb, rfl, AllOwn.of_rep l⟩), by simp, fun x hx => by rw [List.mem_singleton.mp hx]; exact if_pos rfl⟩
    | 3, e => cases e
    | i + 4, e => cases e
  · have e : (if x = b then some 2 else none) = some i := e
    by_cases z : x = b
    · subst z
      exact ⟨nb, fun q => q.2 rfl, by rw [hb]; exact fun z => by cases z⟩
    · rw [if_neg z] at e; cases e
theorem view2 {a b : Addr} {g : List D} {us : List V} {x y m : Int} {σ : L2.St} (ha : H a = some (.lst [.ref b, .int x, .int y])) (hb : H b = some (.lst us)) (l : RepL K F H g us) (hd : ∀ x, F x → H x ≠ none) (hl : σ.length = 4) (s0 : σ[0]? = some (some (.ref a))) (s1 : σ[1]? = some (some (.int m))) :
    Rel K (fun x => F x ∨ x = a ∨ x = b) (fun _ => False) (env2 g x y m) σ H := by
  have l' : RepL K (fun x => F x ∨ x = a ∨ x = b) H g us := l.mono (Grow.up fun _ => .inl)
  refine ⟨hl.symm, fun z q => ?_, List.nodup_nil, fun _ => none, fun i d n e => ?_, fun x i e => (by cases e), fun x hx => (by cases hx)⟩
  · rcases q with (q | q | q) | q
    · exact hd z q
    · rw [q, ha]; exact fun z => by cases z
    · rw [q, hb]; exact fun z => by cases z
    · exact q.elim
  · match i, e with
    | 0, e => cases e; exact ⟨_, [], s0, ⟨rfl, .lst (.inr (.inl rfl)) (.inl ha) (.cons (.lst (.inr (.inr rfl)) (.inl hb) l') (.cons (.int x) (.cons (.int y) .nil)))⟩, List.nodup_nil, fun x hx => (by cases hx)⟩
    | 1, e => cases e; exact ⟨_, [], s1, ⟨rfl, .int m⟩, List.nodup_nil, fun x hx => (by cases hx)⟩
    | 2, e => cases e
    | 3, e => cases e
    | i + 4, e => cases e
theorem own_spring {a b : Addr} {g : List D} {us : List V} {x y : Int} (ha : H a = some (.lst [.ref b, .int x, .int y])) (hb : H b = some (.lst us)) (l : RepL K F H g us) : Own K F H 2 (.list [.list g, .int x, .int y]) (.ref a) [a, b] :=
  .inr (.inl ⟨_, a, _, [b], rfl, rfl, ha, rfl, AllOwn.cons (A := [b]) (B := []) (.inr (.inl ⟨g, b, us, [], rfl, rfl, hb, rfl, AllOwn.of_rep l⟩)) (AllOwn.cons (A := []) (B := []) (.inl ⟨rfl, rfl, .int x⟩) (AllOwn.cons (A := []) (B := []) (.inl ⟨rfl, rfl, .int y⟩) .nil))⟩)
end
section
variable {P : Program} {w : World} {K : PySem.W.Frag} {mg : Str → Option Value} {base : Heap}
theorem fn_alias {x qual : Str} {st : Stmt} {f : Addr} {fd : FuncData} {n0 n1 n2 n3 : Str} {k : Nat} {f2 f3 : Env' → Res (Fl × Env')} {h4 h5 h6 : Env' → Option (D × Nat)} {s1 s2 s3 s4 s5 : Stmt} {e6 : Expr} {p6 : Pos} (Fn : FnP K x qual st f fd) (S : FnScope [n0, n1, n2, n3] [n0, n1] (defScope st)) (eb : defBody st = [s1, s2, s3, s4, s5, .Return (some e6) p6])
    (hb : ∀ (cdv : Value) (A : Around) (outer : List Env) (s : Shared) (H : Hp) (E : XK), Room k (A.deeper (envOfC qual (defScope st) s.heap.objs.size f cdv)) →
      DAl (bodyX P w K mg base [n0, n1, n2, n3] qual st f cdv A outer s H E) s1 ∧ DS (bodyX P w K mg base [n0, n1, n2, n3] qual st f cdv A outer s H E) E00 (fun i => i == 3) s2 f2 ∧ DS (bodyX P w K mg base [n0, n1, n2, n3] qual st f cdv A outer s H E) E00 (fun i => i == 3) s3 f3 ∧
      DSetI (bodyX P w K mg base [n0, n1, n2, n3] qual st f cdv A outer s H E) 2 s4 h4 ∧ DSetI (bodyX P w K mg base [n0, n1, n2, n3] qual st f cdv A outer s H E) 1 s5 h5 ∧ DP (bodyX P w K mg base [n0, n1, n2, n3] qual st f cdv A outer s H E) e6 h6) :
    FnOk P w K mg base CX0 (k + 1) f fd [n0, n1] (SpI K 1 2 (aliasF f2 f3 h4 h5 h6)) := by
  refine Fn.ok S (fun vs H Q E h => ?_) (fun cdv A outer s H vs Q E hr h => ?_)
  · obtain ⟨d0, v0, ds, vr, F, A0, rfl, hl, o, nd, hA, l, _⟩ := h
    rw [List.length_cons, l.length, hl]
    rfl
  obtain ⟨d0, v0, ds, vr, F, A0, rfl, hl, o, nd, hA, l, hd, h⟩ := h
  obtain ⟨⟨t1, p1, q1⟩, ⟨t2, p2, q2⟩, ⟨t3, p3, q3⟩, ⟨t4, p4, q4⟩, ⟨t5, p5, q5⟩, ⟨t6, p6, q6⟩⟩ := hb cdv A outer s H E hr
  refine ⟨_, PSs.nox (show PSs _ (defBody st) _ by rw [eb]; exact pss_cons p1 (pss_cons p2 (pss_cons p3 (pss_cons p4 (pss_cons p5 (pss_one (ps_ret p6))))))), ?_⟩
  obtain ⟨dm, rfl⟩ : ∃ dm, ds = [dm] := by
    match ds, hl with
    | [dm], _ => exact ⟨dm, rfl⟩
  cases l with
  | cons rm l' =>
  cases l'
  unfold aliasF at h
  cases hal : aliasA [d0, dm] with
  | none => rw [hal] at h; exact h.elim
  | some gxym =>
  obtain ⟨g, x, y, m⟩ := gxym
  rw [hal] at h
  dsimp only at h
  cases aliasA_some hal
  cases rm
  -- the list, its list
  rcases o with ⟨_, z, _⟩ | ⟨ds', a, vs', B, e1, rfl, hHa, rfl, al⟩ | ⟨kvs, a, ks, e1, _⟩ | ⟨kvs, a, ks, e1, _⟩
  · cases z
  · cases e1
    cases al with
    | cons og al =>
    cases al with
    | cons ox al =>
    cases al with
    | cons oy al =>
    cases al
    have exA := (own_still ox rfl).1
    have eyA := (own_still oy rfl).1
    have evx := own_int ox
    have evy := own_int oy
    subst exA eyA evx evy
    rcases og with ⟨_, z, _⟩ | ⟨ds2, b, us, B2, e2, rfl, hHb, rfl, al2⟩ | ⟨kvs, a, ks, e2, _⟩ | ⟨kvs, a, ks, e2, _⟩
    · cases z
    · cases e2
      obtain ⟨eB, lg⟩ := al2.nil_of
      subst eB
      have nd' : a ≠ b := fun z => by simp [z] at nd
      have nFa : ¬ F a := hA a (by simp)
      have nFb : ¬ F b := hA b (by simp)
      have aP : H a ≠ none ∧ a ≠ b := ⟨by rw [hHa]; exact fun z => (by cases z), nd'⟩
      have inA : ∀ z, ¬ (H z ≠ none ∧ z ≠ b) → H z = none ∨ z ∈ [a, b] := fun z q => by
        by_cases e : H z = none
        · exact .inl e
        · exact .inr (by
            have : z = b := Classical.byContradiction fun w => q ⟨e, w⟩
            simp [this])
      refine q1 _ _ a b _ _ rfl hHa ?_
      refine q2 (env1 g m) F (fun z => H z ≠ none ∧ z ≠ b) _ H _ rfl (view1 (a := a) (vm := .int m) hHb lg hd nFb rfl) ?_
      cases hf2 : f2 (env1 g m) with
      | stuck => rw [hf2] at h; exact h.elim
      | exc _ _ => rw [hf2] at h; exact h.elim
      | ok r2 =>
      obtain ⟨fl2, ρ2⟩ := r2
      rw [hf2] at h
      cases fl2 <;> try exact h.elim
      simp only [bind_ok] at h
      intro σ2 H2 F2 k2 st2 r2 l2
      refine q3 ρ2 F2 (fun z => H z ≠ none ∧ z ≠ b) σ2 H2 _ l2 r2 ?_
      cases hf3 : f3 ρ2 with
      | stuck => rw [hf3] at h; exact h.elim
      | exc _ _ => rw [hf3] at h; exact h.elim
      | ok r3 =>
      obtain ⟨fl3, ρ3⟩ := r3
      rw [hf3] at h
      simp only [bind_ok] at h
      cases hgo : greatOf ρ3 with
      | stuck => rw [hgo] at h; exact h.elim
      | exc _ _ => rw [hgo] at h; exact h.elim
      | ok g' =>
      rw [hgo] at h
      simp only [bind_ok] at h
      have hg3 := getS_some (greatOf_some hgo)
      -- what holds behind both
      have at3 : ∀ {σ3 : L2.St} {H3 : Hp} {F3 : AS} {A3 : List Addr}, SK (fun i => i == 3) σ2 σ3 → Step F2 (fun z => H z ≠ none ∧ z ≠ b) H2 F3 H3 → RelX K F3 (fun z => H z ≠ none ∧ z ≠ b) ρ3 σ3 H3 A3 →
          (σ3[0]? = some (some (.ref a)) ∧ σ3[1]? = some (some (.int m))) ∧ H3 a = some (.lst [.ref b, .int x, .int y]) ∧ (∃ us', H3 b = some (.lst us') ∧ RepL K F3 H3 g' us') ∧ ¬ F3 a ∧ ¬ F3 b ∧ (∀ z o, H z = some o → z ∉ [a, b] → H3 z = some o) ∧ (∀ z, F z → F3 z) ∧ (∀ z, F3 z → F z ∨ H z = none ∨ z ∈ [a, b]) ∧ ∀ z vs, H z = some (.tup vs) → H3 z = some (.tup vs) := by
        intro σ3 H3 F3 A3 k3 st3 r3
        have st := st2.trans st3
        have e0 := (k3 0 rfl).trans (k2 0 rfl)
        have e1 := (k3 1 rfl).trans (k2 1 rfl)
        have e2 := (k3 2 rfl).trans (k2 2 rfl)
        obtain ⟨v', C, e4, o4, r4⟩ := r3.take hg3
        rw [e2] at e4
        cases e4
        have nC : ∀ z ∈ C, ¬ F3 z := fun z hz => r4.2.2.2.elim fun w q => (q.2.2 z (List.mem_append_left _ hz)).2.1
        rcases o4 with ⟨_, z, _⟩ | ⟨ds4, b', us4, B4, e5, e6, hHb4, eC, al4⟩ | ⟨_, _, _, e5, _⟩ | ⟨_, _, _, e5, _⟩
        · cases z
        · cases e5
          cases e6
          obtain ⟨eB4, lg4⟩ := al4.nil_of
          subst eB4 eC
          refine ⟨⟨e0, e1⟩, (st.prot a aP).trans hHa, ⟨us4, hHb4, lg4⟩, fun z => (st.fresh a z).elim nFa fun q => q aP, nC b (by simp), fun z o e n => (st.prot z ⟨by rw [e]; exact fun w => (by cases w), fun w => n (by simp [w])⟩).trans e, fun z q => (st.grow.at_ z q).1, fun z q => (st.fresh z q).imp id (inA z), st.grow.tups⟩
        · cases e5
        · cases e5
      cases fl3 with
      | bk => exact h.elim
      | ct => exact h.elim
      | rt d n =>
        cases d <;> try exact h.elim
        rename_i i
        intro σ3 v H3 F3 A3 k3 st3 r3 ov
        obtain ⟨_, ha3, ⟨us', hb3, lg3⟩, nFa3, nFb3, sm, gr, fr, tp⟩ := at3 k3 st3 r3
        have := (own_still ov rfl).1
        subst this
        refine h v H3 F3 [] [a, b] ⟨sm, gr, fr, fun z hz => ⟨.inr (by simpa using hz), ?_⟩, by simpa using nd', fun z q => r3.dom z (.inl q), tp⟩ (own_spring ha3 hb3 lg3) ⟨rfl, (own_still ov rfl).2⟩
        rcases (by simpa using hz : z = a ∨ z = b) with e | e
        · rw [e]; exact nFa3
        · rw [e]; exact nFb3
      | nx =>
        dsimp only at h
        intro σ3 H3 F3 k3 st3 r3 l3
        obtain ⟨⟨s0, s1⟩, ha3, ⟨us', hb3, lg3⟩, nFa3, nFb3, sm, gr, fr, tp⟩ := at3 k3 st3 r3
        have ls : σ3.length = 4 := r3.1.symm.trans l3
        have hd3 : ∀ z, F3 z → H3 z ≠ none := fun z q => r3.dom z (.inl q)
        cases h4v : intO (h4 (env2 g' x y m)) with
        | stuck => rw [h4v] at h; exact h.elim
        | exc _ _ => rw [h4v] at h; exact h.elim
        | ok y' =>
        rw [h4v] at h
        simp only [bind_ok] at h
        cases h5v : intO (h5 (env2 g' x y' m)) with
        | stuck => rw [h5v] at h; exact h.elim
        | exc _ _ => rw [h5v] at h; exact h.elim
        | ok x' =>
        rw [h5v] at h
        simp only [bind_ok] at h
        cases h6v : intO (h6 (env2 g' x' y' m)) with
        | stuck => rw [h6v] at h; exact h.elim
        | exc _ _ => rw [h6v] at h; exact h.elim
        | ok i =>
        rw [h6v] at h
        simp only [bind_ok] at h
        obtain ⟨n4, h4v⟩ := intO_some h4v
        obtain ⟨n5, h5v⟩ := intO_some h5v
        obtain ⟨n6, h6v⟩ := intO_some h6v
        have up : ∀ {Hx : Hp} {u : HO}, (∀ vs, Hx a ≠ some (.tup vs)) → Grow F3 Hx F3 (upd Hx a u) := fun {Hx u} na => ⟨fun z q => ⟨q, upd_ne fun e => nFa3 (by rw [← e]; exact q)⟩, fun z vs q => by rw [upd_ne fun e => na vs (by rw [← e]; exact q)]; exact q⟩
        refine q4 (env2 g' x y m) _ (fun _ => False) σ3 H3 _ _ n4 a _ rfl (view2 ha3 hb3 lg3 hd3 ls s0 s1) h4v s0 ha3 (by show 2 < 3; omega) rfl fun v4 A4 o4 => ?_
        rw [own_int o4]
        have ha4 : upd H3 a (.lst ([V.ref b, .int x, .int y].set 2 (.int y'))) a = some (.lst [.ref b, .int x, .int y']) := upd_same
        have hb4 : upd H3 a (.lst ([V.ref b, .int x, .int y].set 2 (.int y'))) b = some (.lst us') := (upd_ne (Ne.symm nd')).trans hb3
        have lg4 := lg3.mono (up (Hx := H3) (u := .lst ([V.ref b, .int x, .int y].set 2 (.int y'))) fun vs q => by rw [ha3] at q; cases q)
        refine q5 (env2 g' x y' m) _ (fun _ => False) σ3 _ _ _ n5 a _ rfl (view2 ha4 hb4 lg4 (fun z q => upd_some (hd3 z q)) ls s0 s1) h5v s0 ha4 (by show 1 < 3; omega) rfl fun v5 A5 o5 => ?_
        rw [own_int o5]
        have ha5 : upd (upd H3 a (.lst ([V.ref b, .int x, .int y].set 2 (.int y')))) a (.lst ([V.ref b, .int x, .int y'].set 1 (.int x'))) a = some (.lst [.ref b, .int x', .int y']) := upd_same
        have hb5 : upd (upd H3 a (.lst ([V.ref b, .int x, .int y].set 2 (.int y')))) a (.lst ([V.ref b, .int x, .int y'].set 1 (.int x'))) b = some (.lst us') := (upd_ne (Ne.symm nd')).trans hb4
        have lg5 := lg4.mono (up (u := .lst ([V.ref b, .int x, .int y'].set 1 (.int x'))) fun vs q => by rw [ha4] at q; cases q)
        refine q6 (env2 g' x' y' m) _ (fun _ => False) σ3 _ _ _ n6 rfl (view2 ha5 hb5 lg5 (fun z q => upd_some (upd_some (hd3 z q))) ls s0 s1) h6v fun v6 A6 o6 => ?_
        rw [own_int o6]
        refine h _ _ F3 [] [a, b] ⟨fun z o e n => ?_, gr, fr, fun z hz => ⟨.inr (by simpa using hz), ?_⟩, by simpa using nd', fun z q => upd_some (upd_some (hd3 z q)), fun z vs q => ?_⟩ (own_spring ha5 hb5 lg5) ⟨rfl, .int i⟩
        · have na : z ≠ a := fun w => n (by simp [w])
          rw [upd_ne na, upd_ne na]
          exact sm z o e n
        · rcases (by simpa using hz : z = a ∨ z = b) with e | e
          · rw [e]; exact nFa3
          · rw [e]; exact nFb3
        · have na : z ≠ a := fun w => by rw [w, hHa] at q; cases q
          rw [upd_ne na, upd_ne na]
          exact tp z vs q
    · cases e2
    · cases e2
  · cases e1
  · cases e1
end
end DL

namespace DL
open PySem PySem.Spec PyProof.Rows L2

section
variable {X : Cx} {E : Exs} {e a b : Expr} {es : List Expr} {pos : Pos} {W : Nat → Bool}
/-- a name's value with all that it owns; the name is not read again -/
def takS (ρ : Env') (i : Nat) : Res (D × Nat × Env') := match getS ρ i with
  | some (d, n) => .ok (d, n, ρ.set i none)
  | none => .stuck
theorem de_take (i : Nat) {x : Str} {pos : Pos} (hN : X.N[i]? = some x := by rfl) (hv : Vis X.env.scope x := by first | exact Or.inl rfl | exact Or.inr (Or.inl rfl) | exact Or.inr (Or.inr rfl)) (hd : (x == ("__debug__" : Str)) = false := by decide)
    (hcd : (x == ("__classdict__" : Str)) = false := by decide) : DE X E (.Name x pos) fun ρ => takS ρ i :=
  ⟨_, pe_var hN hv hd hcd, fun ρ F P σ H Q hl r h => by
    unfold takS at h
    cases hg : getS ρ i with
    | none => rw [hg] at h; exact h.elim
    | some x =>
      obtain ⟨d, n⟩ := x
      rw [hg] at h
      obtain ⟨v, B, e1, o, r1⟩ := r.take (getS_some hg)
      rw [List.append_nil] at r1
      exact ⟨v, e1, h v H F B Step.refl r1 o⟩⟩
/-- an expression that makes new objects and no more -/
structure DN (X : Cx) (e : Expr) (f : Env' → Option (D × Nat)) : Prop where
  ex : ∃ t, PE X e t ∧ ∀ (ρ : Env') (F P : AS) (σ : L2.St) (H : Hp) (Q : VK) (d : D) (n : Nat), ρ.length = X.N.length → Rel X.K F P ρ σ H →
    f ρ = some (d, n) → (∀ v H' F' A, Alloc F H F' H' A → Own X.K F' H' n d v A → Q v H') → t σ H Q
theorem dn_nilL : DN X (.List [] pos) fun _ => some (.list [], 1) := by
  refine ⟨_, pe_lst pa_nil, fun ρ F P σ H Q d n hl r e q => ?_⟩
  cases e
  refine ⟨by decide, fun p hp => ?_⟩
  obtain ⟨al, ow⟩ := alloc_list (K := X.K) hp (fun a f => r.dom a (.inl f)) .nil
  exact q _ _ _ _ al ow
theorem dn_nilT {k : Nat} : DN X (.Tuple [] k pos) fun _ => some (.tuple [], 0) := by
  refine ⟨_, pe_tup pa_nil, fun ρ F P σ H Q d n hl r e q => ?_⟩
  cases e
  refine ⟨by decide, fun p hp => ?_⟩
  obtain ⟨al, ow⟩ := alloc_tuple (K := X.K) hp (fun a f => r.dom a (.inl f)) .nil
  exact q _ _ _ [] al ⟨rfl, ow⟩
theorem d2_pn {f g : Env' → Option (D × Nat)} (ha : DP X a f) (hb : DN X b g) : D2 X E a b fun ρ => liftO (f ρ) >>= fun x => liftO (g ρ) >>= fun y => .ok (x, y, ρ) := by
  obtain ⟨ta, pa, qa⟩ := ha
  obtain ⟨tb, pb, qb⟩ := hb
  refine ⟨ta, tb, pa, pb, fun ρ F P σ H R hl r h => ?_⟩
  cases hf : f ρ with
  | none => rw [hf] at h; exact h.elim
  | some x =>
    rw [hf] at h
    cases hg : g ρ with
    | none => rw [hg] at h; exact h.elim
    | some y =>
      rw [hg] at h
      refine qa ρ F P σ H _ x.1 x.2 hl r hf fun v A o1 => qb ρ F P σ H _ y.1 y.2 hl r hg fun u H' F' B al o2 => ?_
      exact h v u H' F' A B (al.step r) (al.rel r).drop (o1.mono (al.growF r) fun z hz => al.eq (o1.there z hz) (by simp)) o2
end
section
variable {X : Cx} {E : Exs} {a b c : Expr} {pos : Pos} {W : Nat → Bool}
/-- a, b = x, y where a or b is read in a block: by way of the tuple -/
theorem ds_parT (i j : Nat) {x y : Str} {px py pt : Pos} {kt k2 pt2} {f : Env' → Res (List (D × Nat) × Env')} (hc : X.calm = true) (hN : X.N.Nodup) (ha : DAO X E [a, b] f) (hw : swappedStores [.Tuple [.Name x px, .Name y py] kt pt] (.Tuple [a, b] k2 pt2) X.env = pure none := by rfl) (hi : X.N[i]? = some x := by rfl) (hj : X.N[j]? = some y := by rfl) (hij : i ≠ j := by decide)
    (hx : Loc X.env.scope x := by first | exact Or.inl rfl | exact Or.inr rfl) (hy : Loc X.env.scope y := by first | exact Or.inl rfl | exact Or.inr rfl)
    (hfx : X.fn x = true ∨ X.env.scope.names.lookup x = some .local := by first | exact .inl rfl | exact .inr rfl | assumption) (hfy : X.fn y = true ∨ X.env.scope.names.lookup y = some .local := by first | exact .inl rfl | exact .inr rfl | assumption)
    (hs1 : (assignEach [.Name x px, .Name y py] X.env).map (·.2) = assign (.Name x px) X.env :: (assignEach [.Name y py] X.env).map (·.2) := by rfl) (hs2 : (assignEach [.Name y py] X.env).map (·.2) = assign (.Name y py) X.env :: (assignEach [] X.env).map (·.2) := by rfl)
    (hn : (assignEach [.Name x px, .Name y py] X.env).length = 2 := by rfl) (hst : (assignEach [.Name x px, .Name y py] X.env).findIdx? (·.1) = none := by rfl)
    (hs : swapsWithSole [.Tuple [.Name x px, .Name y py] kt pt] (.Tuple [a, b] k2 pt2) pos.line X.env = pure false := by rfl) (h1 : (assignEach [.Tuple [.Name x px, .Name y py] kt pt] X.env).map (·.2) = [assign (.Tuple [.Name x px, .Name y py] kt pt) X.env] := by rfl) (hW : W i = true ∧ W j = true := by decide) :
    DS X E W (.Assign [.Tuple [.Name x px, .Name y py] kt pt] (.Tuple [a, b] k2 pt2) pos) (parF i j f) := by
  obtain ⟨t, pa, qa⟩ := ha
  refine ⟨_, ps_asg (pe_tup pa) (pg_tup hc (pgs_cons (pg_name hN hi hx hfx) (pgs_cons (pg_name hN hj hy hfy) pgs_nil hs2) hs1) hn hst) hs hw h1, fun ρ F P σ H Dn hl r h => qa ρ F P σ H _ hl r (PostS.of h |>.same fun q hq vs H1 F1 A st r1 l => ?_)⟩
  have l1 : q.2.length = X.N.length := rel_len r hl r1
  have hil : i < q.2.length := by rw [l1]; exact (List.getElem?_eq_some_iff.mp hi).1
  have hjl : j < q.2.length := by rw [l1]; exact (List.getElem?_eq_some_iff.mp hj).1
  obtain ⟨ds, ρ1⟩ := q
  match ds, hq, l with
  | [x, y], hq, l =>
    cases l with
    | cons o1 l1' =>
      cases l1' with
      | cons o2 l2' =>
        cases l2'
        rename_i v A1 u A2
        refine ⟨by show 2 ≤ sizeLine; decide, fun p hp => ⟨p, [v, u], rfl, SqT.of upd_same, rfl, _, _, rfl, _, _, rfl, rfl, ?_⟩⟩
        have nF : ∀ z ∈ A1 ++ (A2 ++ []), ¬ F1 z := fun z hz => r1.2.2.2.elim fun w q => (q.2.2 z hz).2.1
        have ef : Eff F1 H1 (A1 ++ (A2 ++ [])) F1 (upd H1 p (.tup [v, u])) (A1 ++ (A2 ++ [])) := ⟨fun z o e _ => by rw [upd_ne fun w => by rw [w, hp] at e; cases e]; exact e, fun _ z => z, fun _ z => .inl z, fun z hz => ⟨.inr hz, nF z hz⟩, r1.2.2.1, fun z q => upd_some (r1.dom z (.inl q)), fun z vs e => by rw [upd_ne fun w => by rw [w, hp] at e; cases e]; exact e⟩
        have g := ef.growF r1
        have keep : ∀ z, H1 z ≠ none → upd H1 p (.tup [v, u]) z = H1 z := fun z hz => upd_ne fun w => hz (by rw [w]; exact hp)
        have ra := (ef.rel r1).put hil (o1.mono g fun z hz => keep z (o1.there z hz))
        have rb := ra.put (by rw [List.length_set]; exact hjl) (o2.mono g fun z hz => keep z (o2.there z hz))
        exact hq _ _ F1 (fun k hk => by rw [List.getElem?_set_ne (fun z => by rw [← z, hW.2] at hk; cases hk), List.getElem?_set_ne (fun z => by rw [← z, hW.1] at hk; cases hk)]) (st.trans (ef.step r1)) rb (by rw [List.length_set, List.length_set]; exact l1)
  | [], hq, l => exact hq.elim
  | [_], hq, l => exact hq.elim
  | _ :: _ :: _ :: _, hq, l => exact hq.elim
end
end DL

namespace DL
open PySem PySem.Spec PyProof.Rows L2
/-! names for what the rules answer -/
abbrev PF := Env' → Option (D × Nat)
abbrev EF := Env' → Res (D × Nat × Env')
abbrev TF := Env' → Res (Bool × Env')
abbrev SF := Env' → Res (Fl × Env')
abbrev AF := Env' → Res (List D × Env')
abbrev OF := Env' → Res (List (D × Nat) × Env')
abbrev D2F := Env' → Res ((D × Nat) × (D × Nat) × Env')
abbrev GF := D → Nat → Env' → Res Env'
@[simp] def kP (d : D) : PF := fun _ => some (d, 0)
@[simp] def vP (i : Nat) : PF := fun ρ => getS ρ i
@[simp] def binP (g : D → D → Option D) (f f' : PF) : PF := fun ρ => (f ρ).bind fun x => (f' ρ).bind fun y => (g x.1 y.1).map fun d => (d, 0)
@[simp] def callP (g : List (D × Nat) → Option D) (f : Env' → Option (List (D × Nat))) : PF := fun ρ => (f ρ).bind fun ds => (g ds).map fun d => (d, 0)
@[simp] def ixP (f f' : PF) : PF := fun ρ => (f ρ).bind fun x => (f' ρ).bind fun y => ixD x y.1
@[simp] def negP (f : PF) : PF := fun ρ => (f ρ).bind fun x => (negD x.1).map fun d => (d, 0)
@[simp] def chnP (g g' : D → D → Option D) (f1 f2 f3 : PF) : PF := fun ρ => (f1 ρ).bind fun x => (f2 ρ).bind fun y => (f3 ρ).bind fun z => (chainD g g' x.1 y.1 z.1).map fun d => (d, 0)
@[simp] def isiP (T : String) (f : PF) : PF := fun ρ => (f ρ).bind (isinst1 T)
@[simp] def nilP : Env' → Option (List (D × Nat)) := fun _ => some []
@[simp] def consP (f : PF) (g : Env' → Option (List (D × Nat))) : Env' → Option (List (D × Nat)) := fun ρ => (f ρ).bind fun x => (g ρ).bind fun y => some (x :: y)
@[simp] def pE (f : PF) : EF := fun ρ => upD (f ρ) ρ
@[simp] def vE (i : Nat) : EF := fun ρ => frzS ρ i
@[simp] def tkE (i : Nat) : EF := fun ρ => takS ρ i
@[simp] def p1 (f : PF) : EF := fun ρ => liftO (f ρ) >>= fun x => .ok (x.1, x.2, ρ)
@[simp] def d2E (f g : EF) : D2F := fun ρ => f ρ >>= fun x => g x.2.2 >>= fun y => .ok ((x.1, x.2.1), (y.1, y.2.1), y.2.2)
@[simp] def d2P (f g : PF) : D2F := fun ρ => liftO (f ρ) >>= fun x => liftO (g ρ) >>= fun y => .ok (x, y, ρ)
@[simp] def kN (x : D × Nat) : PF := fun _ => some x
@[simp] def upO (g : D → D → Option D) : D × Nat → D × Nat → Option (D × Nat) := fun a b => (g a.1 b.1).map fun d => (d, 0)
@[simp] def upC (g : List (D × Nat) → Option D) : List (D × Nat) → Option (D × Nat) := fun a => (g a).map fun d => (d, 0)
@[simp] def binE (g : D × Nat → D × Nat → Option (D × Nat)) (f : D2F) : EF := fun ρ => f ρ >>= fun s => liftO (g s.1 s.2.1) >>= fun d => .ok (d.1, d.2, s.2.2)
@[simp] def cmpT (g : D × Nat → D × Nat → Option (D × Nat)) (f : D2F) : TF := fun ρ => f ρ >>= fun s => liftO ((g s.1 s.2.1).bind fun d => isB d.1) >>= fun k => .ok (k, s.2.2)
@[simp] def valT (f : EF) : TF := fun ρ => f ρ >>= fun x => liftO (isB x.1) >>= fun k => .ok (k, x.2.2)
@[simp] def chnT (g g' : D → D → Option D) (f1 f2 f3 : PF) : TF := fun ρ => liftO ((f1 ρ).bind fun x => (f2 ρ).bind fun y => (f3 ρ).bind fun z => (chainD g g' x.1 y.1 z.1).bind isB) >>= fun k => .ok (k, ρ)
@[simp] def notT (f : TF) : TF := fun ρ => f ρ >>= fun x => .ok (!x.1, x.2)
@[simp] def nilA : AF := fun ρ => .ok ([], ρ)
@[simp] def consA (f : EF) (g : AF) : AF := fun ρ => f ρ >>= fun x => g x.2.2 >>= fun y => .ok (x.1 :: y.1, y.2)
@[simp] def nilO : OF := fun ρ => .ok ([], ρ)
@[simp] def consO (f : EF) (g : OF) : OF := fun ρ => f ρ >>= fun x => g x.2.2 >>= fun y => .ok ((x.1, x.2.1) :: y.1, y.2)
@[simp] def pO (f : Env' → Option (List (D × Nat))) : OF := fun ρ => liftO (f ρ) >>= fun x => .ok (x, ρ)
@[simp] def callE (g : List (D × Nat) → Option (D × Nat)) (f : OF) : EF := fun ρ => f ρ >>= fun s => liftO (g s.1) >>= fun d => .ok (d.1, d.2, s.2)
@[simp] def tupE (f : AF) : EF := fun ρ => f ρ >>= fun r => if r.1.length ≤ line then .ok (.tuple r.1, 0, r.2) else .stuck
@[simp] def lstE (f : AF) : EF := fun ρ => f ρ >>= fun r => if r.1.length ≤ line then .ok (.list r.1, 1, r.2) else .stuck
@[simp] def lstOE (f : OF) : EF := fun ρ => f ρ >>= fun r => if r.1.length ≤ line ∧ (r.1.all fun d => decide (d.2 = 1) || still d.1) = true then .ok (.list (r.1.map (·.1)), 2, r.2) else .stuck
@[simp] def ixEE (f : D2F) : EF := fun ρ => f ρ >>= fun s => liftO (ixE s.1 s.2.1) >>= fun d => .ok (d, 0, s.2.2)
@[simp] def noS : Env' → Option (Option Int) := fun _ => some none
@[simp] def atS (f : PF) : Env' → Option (Option Int) := fun ρ => (f ρ).bind fun x => (isI x.1).map some
@[simp] def slcE (f : EF) (fl fh : Env' → Option (Option Int)) : EF := fun ρ => f ρ >>= fun x => liftO ((fl x.2.2).bind fun l => (fh x.2.2).bind fun h => slD (x.1, x.2.1) l h) >>= fun c => .ok (c.1, c.2, x.2.2)
@[simp] def notE (f : EF) : EF := fun ρ => f ρ >>= fun x => liftO (notD x.1) >>= fun d => .ok (d, 0, x.2.2)
@[simp] def rg1 (f : EF) : Env' → Res (Int × Int × Env') := fun ρ => f ρ >>= fun x => liftO (isI x.1) >>= fun i => .ok (0, i, x.2.2)
@[simp] def rg2 (f : D2F) : Env' → Res (Int × Int × Env') := fun ρ => f ρ >>= fun s => liftO (isI s.1.1) >>= fun i => liftO (isI s.2.1.1) >>= fun j => .ok (i, j, s.2.2)
@[simp] def lrgE (f : Env' → Res (Int × Int × Env')) : EF := fun ρ => f ρ >>= fun r => if RgOk r.1 r.2.1 then .ok (.list (rngD r.1 r.2.1), 1, r.2.2) else .stuck
@[simp] def trgE (f : Env' → Res (Int × Int × Env')) : EF := fun ρ => f ρ >>= fun r => if RgOk r.1 r.2.1 then .ok (.tuple (rngD r.1 r.2.1), 0, r.2.2) else .stuck
@[simp] def isi2E (T T' : String) (f : PF) : EF := fun ρ => liftO ((f ρ).bind (isinst2 T T')) >>= fun d => .ok (d, 0, ρ)
@[simp] def callDE (g : List D → Res (D × Nat)) (n : Nat) (f : AF) : EF := fun ρ => f ρ >>= fun r => if r.1.length = n then callR (g r.1) r.2 else .stuck
@[simp] def callKE (g : List D → Res (D × Nat)) (m n : Nat) (π : List Nat) (f : AF) : EF := fun ρ => f ρ >>= fun r => if r.1.length = m ∧ (permF π r.1).length = n then callR (g (permF π r.1)) r.2 else .stuck
@[simp] def dicE : EF := fun ρ => .ok (tdic [], 1, ρ)
@[simp] def tupK (f : OF) : Env' → Res (List Key × Env') := fun ρ => f ρ >>= fun r => liftO (ownKeys r.1) >>= fun k => if k.length ≤ line then .ok (k, r.2) else .stuck
@[simp] def ifK (c : TF) (f g : Env' → Res (List Key × Env')) : Env' → Res (List Key × Env') := fun ρ => c ρ >>= fun r => if r.1 = true then f r.2 else g r.2
@[simp] def nilS : SF := fun ρ => .ok (.nx, ρ)
@[simp] def brkS : SF := fun ρ => .ok (.bk, ρ)
@[simp] def cntS : SF := fun ρ => .ok (.ct, ρ)
@[simp] def nevS : SF := fun _ => .stuck
@[simp] def expS (f : EF) : SF := fun ρ => f ρ >>= fun x => .ok (.nx, x.2.2)
@[simp] def retS (f : EF) : SF := fun ρ => f ρ >>= fun x => .ok (.rt x.1 x.2.1, x.2.2)
@[simp] def retN : SF := fun ρ => .ok (.rt .none 0, ρ)
@[simp] def forS (fi : AF) (g : GF) (f : SF) : SF := fun ρ => fi ρ >>= fun r => forF g f r.1 r.2
def r1I (f : OF) : AF := fun ρ => f ρ >>= fun x => liftO (range1D x.1) >>= fun ds => .ok (ds, x.2)
def r2I (f : OF) : AF := fun ρ => f ρ >>= fun x => liftO (range2D x.1) >>= fun ds => .ok (ds, x.2)
/-- how many turns a while is let; the kernel is not to count them -/
noncomputable def fuel : Nat := Classical.choose (⟨1000000, rfl⟩ : ∃ n : Nat, n = 1000000)
theorem fuel_eq : fuel = 1000000 := Classical.choose_spec (⟨1000000, rfl⟩ : ∃ n : Nat, n = 1000000)
section
variable {X : Cx} {E : Exs} {W : Nat → Bool} {e a b c : Expr} {es : List Expr} {s : Stmt} {ss p q : List Stmt} {pos p1' p2' : Pos} {x : Str} {f1 f2 f3 : PF} {g1 g2 : EF} {t1 t2 : TF} {s1 s2 : SF} {a1 : AF} {o1 : OF} {b1 : D2F}
theorem n_int {i : Int} {j} : DP X (.Constant (.int i) j pos) (kP (.int i)) := dp_int
theorem n_bool {i : Bool} {j} : DP X (.Constant (.bool i) j pos) (kP (.bool i)) := dp_bool
theorem n_none {j} : DP X (.Constant .none j pos) (kP .none) := dp_none
theorem n_str {i : Str} {j} : DP X (.Constant (.str i) j pos) (kP (.str i)) := dp_str
theorem n_var (i : Nat) (hN : X.N[i]? = some x := by rfl) (hv : Vis X.env.scope x := by first | exact Or.inl rfl | exact Or.inr (Or.inl rfl) | exact Or.inr (Or.inr rfl)) (hd : (x == ("__debug__" : Str)) = false := by decide) (hcd : (x == ("__classdict__" : Str)) = false := by decide) : DP X (.Name x pos) (vP i) := dp_var i hN hv hd hcd
theorem n_glob {v : V} {u : Value} {d : D} (hm : X.mg x = some u) (r : RelV v u) (hr : ∀ F H, Rep X.K F H d v) (hg : Gl X x := by rfl) (hd : (x == ("__debug__" : Str)) = false := by decide) : DP X (.Name x pos) (kP d) := dp_glob hg hm r hr hd
theorem n_bin {op : Operator} {g : D → D → Option D} (ho : OpP X (binaryOp op) g) (ha : DP X a f1) (hb : DP X b f2) : DP X (.BinOp a op b pos) (binP g f1 f2) := dp_bin ho ha hb
theorem n_cmp {op : CmpOp} {g : D → D → Option D} (ho : OpP X (compareOp op) g) (ha : DP X a f1) (hb : DP X b f2) (hm : behindInMarks op b = false := by first | exact nomark _ | with_unfolding_all rfl) : DP X (.Compare a [op] [b] pos) (binP g f1 f2) := dp_cmp ho ha hb hm
theorem n_chn {op op' : CmpOp} {g g' : D → D → Option D} (ho : OpP X (compareOp op) g) (ho' : OpP X (compareOp op') g') (ha : DP X a f1) (hb : DP X b f2) (hc : DP X c f3) (hB : ∀ x y d, g x y = some d → ∃ k, d = .bool k) (hB' : ∀ x y d, g' x y = some d → ∃ k, d = .bool k)
    (hm : lastMarks [op, op'] [b, c] = false := by with_unfolding_all rfl) : DP X (.Compare a [op, op'] [b, c] pos) (chnP g g' f1 f2 f3) := dp_chain ho ho' ha hb hc hB hB' hm
theorem n_ix (ha : DP X a f1) (hb : DP X b f2) (hs : PlainIx b := by exact fun _ _ => rfl) : DP X (.Subscript a b pos) (ixP f1 f2) := dp_ix ha hb hs
theorem n_neg (h : DP X a f1) : DP X (.UnaryOp .USub a pos) (negP f1) := dp_neg h
theorem n_nilP : DCp X [] nilP := dcp_nil
theorem n_consP {g : Env' → Option (List (D × Nat))} (ha : DP X a f1) (hb : DCp X es g) (hs : starEach (a :: es) X.env = (false, eval a X.env) :: starEach es X.env := by rfl) : DCp X (a :: es) (consP f1 g) := dcp_cons ha hb hs
theorem n_pE (h : DP X e f1) : DE X E e (pE f1) := de_dp h
theorem n_vE (i : Nat) (hN : X.N[i]? = some x := by rfl) (hv : Vis X.env.scope x := by first | exact Or.inl rfl | exact Or.inr (Or.inl rfl) | exact Or.inr (Or.inr rfl)) (hd : (x == ("__debug__" : Str)) = false := by decide) (hcd : (x == ("__classdict__" : Str)) = false := by decide) : DE X E (.Name x pos) (vE i) := de_var i hN hv hd hcd
theorem n_tk (i : Nat) (hN : X.N[i]? = some x := by rfl) (hv : Vis X.env.scope x := by first | exact Or.inl rfl | exact Or.inr (Or.inl rfl) | exact Or.inr (Or.inr rfl)) (hd : (x == ("__debug__" : Str)) = false := by decide) (hcd : (x == ("__classdict__" : Str)) = false := by decide) : DE X E (.Name x pos) (tkE i) := de_take i hN hv hd hcd
theorem n_p1 (h : DP X e f1) : D1 X E e (p1 f1) := d1_dp h
theorem n_d2E (ha : DE X E a g1) (hb : D1 X E b g2) : D2 X E a b (d2E g1 g2) := d2_e ha hb
theorem n_d2P (ha : DP X a f1) (hb : DP X b f2) : D2 X E a b (d2P f1 f2) := d2_p ha hb
theorem n_d2N (ha : DP X a f1) (hb : DN X b f2) : D2 X E a b (d2P f1 f2) := d2_pn ha hb
theorem n_nilL : DN X (.List [] pos) (kN (.list [], 1)) := dn_nilL
theorem n_nilT {k : Nat} : DN X (.Tuple [] k pos) (kN (.tuple [], 0)) := dn_nilT
theorem n_upO {f : Value → Value → Sem Value} {g : D → D → Option D} (h : OpP X f g) : OpD X f (upO g) := h.d
theorem n_upC {f : Value} {g : List (D × Nat) → Option D} (h : CallP X f g) : CallD X f (upC g) := h.d
theorem n_binE {op : Operator} {g : D × Nat → D × Nat → Option (D × Nat)} (ho : OpD X (binaryOp op) g) (h : D2 X E a b b1) : DE X E (.BinOp a op b pos) (binE g b1) := de_bin ho h
theorem n_cmpE {op : CmpOp} {g : D × Nat → D × Nat → Option (D × Nat)} (ho : OpD X (compareOp op) g) (h : D2 X E a b b1) (hm : behindInMarks op b = false := by first | exact nomark _ | with_unfolding_all rfl) : DE X E (.Compare a [op] [b] pos) (binE g b1) := de_cmp ho h hm
theorem n_cmpT {op : CmpOp} {g : D × Nat → D × Nat → Option (D × Nat)} (ho : OpD X (compareOp op) g) (h : D2 X E a b b1) (hm : behindInMarks op b = false := by first | exact nomark _ | with_unfolding_all rfl) : DT X E (.Compare a [op] [b] pos) (cmpT g b1) := dt_cmp ho h hm
theorem n_valT (h : D1 X E e g1) (he : ∀ whole, isTrue e X.env whole = (do let v ← whole; standAt e.pos; holding [v] (truthy v)) := by intro _; rfl) : DT X E e (valT g1) := dt_val h he
theorem n_chnT {op op' : CmpOp} {g g' : D → D → Option D} (ho : OpP X (compareOp op) g) (ho' : OpP X (compareOp op') g') (ha : DP X a f1) (hb : DP X b f2) (hc : DP X c f3) (hB : ∀ x y d, g x y = some d → ∃ k, d = .bool k)
    (hm : lastMarks [op, op'] [b, c] = false := by with_unfolding_all rfl) : DT X E (.Compare a [op, op'] [b, c] pos) (chnT g g' f1 f2 f3) := dt_chain ho ho' ha hb hc hB hm
theorem n_notT (h : DT X E a t1) : DT X E (.UnaryOp .Not a pos) (notT t1) := dt_not h
theorem n_nilA : DA X E [] nilA := da_nil
theorem n_consA (ha : DE X E a g1) (hb : DA X E es a1) (hs : starEach (a :: es) X.env = (false, eval a X.env) :: starEach es X.env := by rfl) : DA X E (a :: es) (consA g1 a1) := da_cons ha hb hs
theorem n_nilC : DC X E [] nilO := dc_nil
theorem n_consC (ha : DE X E a g1) (hb : DC X E es o1) (hs : starEach (a :: es) X.env = (false, eval a X.env) :: starEach es X.env := by rfl) : DC X E (a :: es) (consO g1 o1) := dc_cons ha hb hs
theorem n_pC {f : Env' → Option (List (D × Nat))} (h : DCp X es f) : DC X E es (pO f) := dc_p h
theorem n_nilO : DAO X E [] nilO := dao_nil
theorem n_consO (ha : DE X E a g1) (hb : DAO X E es o1) (hs : starEach (a :: es) X.env = (false, eval a X.env) :: starEach es X.env := by rfl) : DAO X E (a :: es) (consO g1 o1) := dao_cons ha hb hs
theorem n_tup {k : Nat} (h : DA X E es a1) : DE X E (.Tuple es k pos) (tupE a1) := de_tuple h
theorem n_lst (h : DA X E es a1) : DE X E (.List es pos) (lstE a1) := de_list h
theorem n_lstO (h : DAO X E es o1) : DE X E (.List es pos) (lstOE o1) := de_listO h
theorem n_ixE (h : D2 X E a b b1) (hs : PlainIx b := by exact fun _ _ => rfl) : DE X E (.Subscript a b pos) (ixEE b1) := de_ix h hs
theorem n_noS : DO X none noS := do_none
theorem n_atS (h : DP X e f1) : DO X (some e) (atS f1) := do_some h
theorem n_notE (h : D1 X E a g1) : DE X E (.UnaryOp .Not a pos) (notE g1) := de_not h
theorem n_dic : DE X E (.Dict [] [] pos) dicE := de_dnewT
theorem n_tupK {k : Nat} (h : DC X E es o1) : DK X E (.Tuple es k pos) (tupK o1) := dk_tuple h
theorem n_ifK {h1 h2 : Env' → Res (List Key × Env')} (hc : DT X E c t1) (ha : DK X E a h1) (hb : DK X E b h2) : DK X E (.IfExp c a b pos) (ifK t1 h1 h2) := dk_if hc ha hb
theorem n_nilS : DSs X E W [] nilS := dss_nil
theorem n_pass : DS X E W (.Pass pos) nilS := ds_pass
theorem n_brk : DS X E W (.Break pos) brkS := ds_break
theorem n_cnt : DS X E W (.Continue pos) cntS := ds_continue
theorem n_nev : DS X E W s nevS := ds_never
theorem n_exp (h : DE X E e g1) (hs : swapsWith e none pos.line X.env = pure false := by rfl) : DS X E W (.Expr e pos) (expS g1) := ds_expr h hs
theorem n_ret (h : DE X E e g1) : DS X E W (.Return (some e) pos) (retS g1) := ds_ret h
theorem n_retN : DS X E W (.Return none pos) retN := ds_retN
theorem n_for {tg iter : Expr} {vs : List Nat} {g : GF} (hp : PassesOwn (model X.prog X.w) X.A X.env X.xe) (hc : X.calm = true) (hi : DI X E tg iter a1) (hg : DG X tg vs g) (hb : DSs X E W ss s1) (hs : ∀ x, foldedSetIterable iter X.env x = pure x := by intro _; rfl) (hW : ∀ i ∈ vs, W i = true := by decide) : DS X E W (.For tg iter ss [] pos) (forS a1 g s1) := ds_for hp hc hi hg hb hs hW
theorem n_while {c : Expr} (hp : PassesOwn (model X.prog X.w) X.A X.env X.xe) (hc : DT X E c t1) (hb : DSs X E W ss s1) : DS X E W (.While c ss [] pos) (whileF t1 s1 fuel) := ds_while fuel hp hc hb
theorem n_callB {id : String} {g : List (D × Nat) → Option (D × Nat)} (hc : CallD X (.builtin id) g) (hm : X.mg x = none) (hv : bootBuiltins x = some (.builtin id)) (ha : DC X E (e :: es) o1) (hg : Gl X x := by rfl) (hn : x ≠ "__name__" := by decide) (hdb : (x == ("__debug__" : Str)) = false := by decide)
    (he : starEach (e :: es) X.env = (false, eval e X.env) :: starEach es X.env := by rfl) (hpl : (backTo pos (starEach es X.env)).any (·.1) = false := by rfl) : DE X E (.Call (.Name x p1') (e :: es) [] pos) (callE g o1) := de_callB hc hg hm hv ha hn hdb he hpl
theorem n_callT {T : String} {g : List (D × Nat) → Option (D × Nat)} (hc : CallD X (.type T) g) (hm : X.mg x = none) (hv : bootBuiltins x = some (.type T)) (ha : DC X E (e :: es) o1) (hg : Gl X x := by rfl) (hn : x ≠ "__name__" := by decide) (hdb : (x == ("__debug__" : Str)) = false := by decide)
    (he : starEach (e :: es) X.env = (false, eval e X.env) :: starEach es X.env := by rfl) (hpl : (backTo pos (starEach es X.env)).any (·.1) = false := by rfl) : DE X E (.Call (.Name x p1') (e :: es) [] pos) (callE g o1) := de_callT hc hg hm hv ha hn hdb he hpl
theorem n_callPB {id : String} {g : List (D × Nat) → Option D} {f : Env' → Option (List (D × Nat))} (hc : CallP X (.builtin id) g) (hm : X.mg x = none) (hv : bootBuiltins x = some (.builtin id)) (ha : DCp X (e :: es) f) (hg : Gl X x := by rfl) (hn : x ≠ "__name__" := by decide) (hdb : (x == ("__debug__" : Str)) = false := by decide)
    (he : starEach (e :: es) X.env = (false, eval e X.env) :: starEach es X.env := by rfl) (hpl : (backTo pos (starEach es X.env)).any (·.1) = false := by rfl) : DP X (.Call (.Name x p1') (e :: es) [] pos) (callP g f) := dp_callB hc hg hm hv ha hn hdb he hpl
theorem n_callPT {T : String} {g : List (D × Nat) → Option D} {f : Env' → Option (List (D × Nat))} (hc : CallP X (.type T) g) (hm : X.mg x = none) (hv : bootBuiltins x = some (.type T)) (ha : DCp X (e :: es) f) (hg : Gl X x := by rfl) (hn : x ≠ "__name__" := by decide) (hdb : (x == ("__debug__" : Str)) = false := by decide)
    (he : starEach (e :: es) X.env = (false, eval e X.env) :: starEach es X.env := by rfl) (hpl : (backTo pos (starEach es X.env)).any (·.1) = false := by rfl) : DP X (.Call (.Name x p1') (e :: es) [] pos) (callP g f) := dp_callT hc hg hm hv ha hn hdb he hpl
variable {CX : CXT} {k : Nat} {f : Addr} {fd : FuncData} {ps : List Str}
theorem n_call {E1 : XK} {n : Nat} {g : List D → Res (D × Nat)} (G : FnOk X.prog X.w X.K X.mg X.base CX k f fd ps (SpD X.K X.mg n g)) (hr : Room k X.A) (hm : X.mg x = some (.ref f)) (hk : PySem.W.keepIn X.K (.ref f) = true) (hb : Binds X.K fd ps []) (hx : Passes CX X E1) (ha : DA X (fun _ => E1) (e :: es) a1)
    (hg : Gl X x := by rfl) (hdb : (x == ("__debug__" : Str)) = false := by decide) (he : starEach (e :: es) X.env = (false, eval e X.env) :: starEach es X.env := by rfl) (hpl : (backTo pos (starEach es X.env)).any (·.1) = false := by rfl) : DE X (fun _ => E1) (.Call (.Name x p1') (e :: es) [] pos) (callDE g n a1) := de_call G hr hm hk hb hx ha hg hdb he hpl
theorem n_slc {lo hi : Option Expr} {p2 : Pos} {fl fh : Env' → Option (Option Int)} (he : D1 X E e g1) (hl : DO X lo fl) (hh : DO X hi fh) : DE X E (.Subscript e (.Slice lo hi none p2) pos) (slcE g1 fl fh) := de_slice he hl hh
theorem n_rg1 (hm : X.mg "range" = none) (ha : D1 X E a g1) (hg : Gl X "range" := by rfl) (na : starEach [a] X.env = (false, eval a X.env) :: starEach [] X.env := by rfl) : DR X E (.Call (.Name "range" p1') [a] [] pos) (rg1 g1) := dr_1 hg hm ha na
theorem n_lrg {f : Env' → Res (Int × Int × Env')} (hc : X.calm = true) (hm : X.mg "list" = none) (he : DR X E e f) (hg : Gl X "list" := by rfl) (na : starEach [e] X.env = (false, eval e X.env) :: starEach [] X.env := by rfl) : DE X E (.Call (.Name "list" p1') [e] [] pos) (lrgE f) := de_listRg hc hg hm he na
theorem n_trg {f : Env' → Res (Int × Int × Env')} (hc : X.calm = true) (hm : X.mg "tuple" = none) (he : DR X E e f) (hg : Gl X "tuple" := by rfl) (na : starEach [e] X.env = (false, eval e X.env) :: starEach [] X.env := by rfl) : DE X E (.Call (.Name "tuple" p1') [e] [] pos) (trgE f) := de_tupRg hc hg hm he na
theorem n_isi {T : String} {xT : Str} (hm : X.mg "isinstance" = none) (hmT : X.mg xT = none) (hvT : bootBuiltins xT = some (.type T)) (hT : ["bool", "int", "str", "list", "tuple"].contains T = true) (ha : DP X a f1) (hg : Gl X "isinstance" := by rfl) (hgT : Gl X xT := by rfl)
    (hn : xT ≠ "__name__" := by decide) (hdb : (xT == ("__debug__" : Str)) = false := by decide) (he1 : starEach [.Name xT p2'] X.env = (false, eval (.Name xT p2') X.env) :: starEach [] X.env := by rfl)
    (he : starEach [a, .Name xT p2'] X.env = (false, eval a X.env) :: starEach [.Name xT p2'] X.env := by rfl) (hpl : (backTo pos (starEach [.Name xT p2'] X.env)).any (·.1) = false := by rfl) :
    DP X (.Call (.Name "isinstance" p1') [a, .Name xT p2'] [] pos) (isiP T f1) := dp_isinst hg hm hgT hmT hvT hT ha hn hdb he1 he hpl
theorem n_isi2 {T T' : String} {xT xT' : Str} {kk : Nat} {p3 p4 : Pos} (hm : X.mg "isinstance" = none) (hmT : X.mg xT = none) (hvT : bootBuiltins xT = some (.type T)) (hT : ["bool", "int", "str", "list", "tuple"].contains T = true) (hmT' : X.mg xT' = none) (hvT' : bootBuiltins xT' = some (.type T')) (hT' : ["bool", "int", "str", "list", "tuple"].contains T' = true) (ha : DP X a f1)
    (hg : Gl X "isinstance" := by rfl) (hgT : Gl X xT := by rfl) (hgT' : Gl X xT' := by rfl) (hn : xT ≠ "__name__" := by decide) (hdb : (xT == ("__debug__" : Str)) = false := by decide) (hn' : xT' ≠ "__name__" := by decide) (hdb' : (xT' == ("__debug__" : Str)) = false := by decide)
    (hs1 : starEach [.Name xT p2', .Name xT' p3] X.env = (false, eval (.Name xT p2') X.env) :: starEach [.Name xT' p3] X.env := by rfl)
    (hs2 : starEach [.Name xT' p3] X.env = (false, eval (.Name xT' p3) X.env) :: starEach [] X.env := by rfl)
    (he1 : starEach [.Tuple [.Name xT p2', .Name xT' p3] kk p4] X.env = (false, eval (.Tuple [.Name xT p2', .Name xT' p3] kk p4) X.env) :: starEach [] X.env := by rfl)
    (he : starEach [a, .Tuple [.Name xT p2', .Name xT' p3] kk p4] X.env = (false, eval a X.env) :: starEach [.Tuple [.Name xT p2', .Name xT' p3] kk p4] X.env := by rfl) (hpl : (backTo pos (starEach [.Tuple [.Name xT p2', .Name xT' p3] kk p4] X.env)).any (·.1) = false := by rfl) :
    DE X E (.Call (.Name "isinstance" p1') [a, .Tuple [.Name xT p2', .Name xT' p3] kk p4] [] pos) (isi2E T T' f1) := de_isinst2 hg hm hgT hmT hvT hT hgT' hmT' hvT' hT' ha hn hdb hn' hdb' hs1 hs2 he1 he hpl
theorem n_r1I {tg : Expr} (hm : X.mg "range" = none) (ha : DC X E [a] o1) (hg : Gl X "range" := by rfl) (hs : starEach [a] X.env = [(false, eval a X.env)] := by rfl) : DI X E tg (.Call (.Name "range" p1') [a] [] pos) (r1I o1) := di_range1 hg hm ha hs
theorem n_r2I {tg : Expr} (hm : X.mg "range" = none) (ha : DC X E [a, b] o1) (hg : Gl X "range" := by rfl) (hs : starEach [a, b] X.env = [(false, eval a X.env), (false, eval b X.env)] := by rfl) (hs2 : starEach [b] X.env = [(false, eval b X.env)] := by rfl) : DI X E tg (.Call (.Name "range" p1') [a, b] [] pos) (r2I o1) := di_range2 hg hm ha hs hs2
theorem n_enum {tpos : Pos} {elts : List Expr} {kk : Nat} (hm : X.mg "enumerate" = none) (ha : DA X E [e] a1) (hg : Gl X "enumerate" := by rfl) (hs : starEach [e] X.env = [(false, eval e X.env)] := by rfl) : DI X E (.Tuple elts kk tpos) (.Call (.Name "enumerate" p1') [e] [] pos) (enum1 a1) := di_enum hg hm ha hs
theorem n_zip {tpos : Pos} {elts : List Expr} {kk : Nat} (hm : X.mg "zip" = none) (ha : DA X E [e, a] a1) (hg : Gl X "zip" := by rfl) (hs : starEach [e, a] X.env = (false, eval e X.env) :: starEach [a] X.env := by rfl) (hpl : (backTo pos (starEach [a] X.env)).any (·.1) = false := by rfl) : DI X E (.Tuple elts kk tpos) (.Call (.Name "zip" p1') [e, a] [] pos) (zip2 a1) := di_zip hg hm ha hs hpl
end
theorem n_nevs {X : Cx} {E : Exs} {W : Nat → Bool} : ∀ {ss : List Stmt}, DSs X E W ss nevS
  | [] => ⟨_, pss_nil, fun ρ F P σ H Dn hl r h => h.elim⟩
  | s :: ss => by
    obtain ⟨t, p, q⟩ := n_nev (X := X) (E := E) (W := W) (s := s)
    obtain ⟨t', p', q'⟩ := n_nevs (X := X) (E := E) (W := W) (ss := ss)
    exact ⟨_, pss_cons p p', fun ρ F P σ H Dn hl r h => h.elim⟩
theorem hr1 {k : Nat} {A : Around} (r : Room k A) : A.units + 1 < cLine := by have := r.un; omega
theorem hr65 {k : Nat} {A : Around} (r : Room k A) : A.units + 65 < cLine := by have := r.un; omega
theorem bt_len : bootBuiltins "len" = some (.builtin "len") := by decide +kernel
theorem bt_sorted : bootBuiltins "sorted" = some (.builtin "sorted") := by decide +kernel
theorem bt_sum : bootBuiltins "sum" = some (.builtin "sum") := by decide +kernel
theorem bt_all : bootBuiltins "all" = some (.builtin "all") := by decide +kernel
theorem bt_any : bootBuiltins "any" = some (.builtin "any") := by decide +kernel
theorem bt_max : bootBuiltins "max" = some (.builtin "max") := by decide +kernel
theorem bt_min : bootBuiltins "min" = some (.builtin "min") := by decide +kernel
theorem bt_abs : bootBuiltins "abs" = some (.builtin "abs") := by decide +kernel
theorem bt_isinstance : bootBuiltins "isinstance" = some (.builtin "isinstance") := by decide +kernel
theorem bt_list : bootBuiltins "list" = some (.type "list") := by decide +kernel
theorem bt_tuple : bootBuiltins "tuple" = some (.type "tuple") := by decide +kernel
theorem bt_int : bootBuiltins "int" = some (.type "int") := by decide +kernel
theorem bt_bool : bootBuiltins "bool" = some (.type "bool") := by decide +kernel
theorem bt_str : bootBuiltins "str" = some (.type "str") := by decide +kernel
end DL

/-! how the answers are worked out by simp -/
namespace DL
open PySem PySem.Spec PyProof.Rows L2
section
variable {ρ : Env'} {x : Option (D × Nat)} {n : Nat} {d : D}
theorem getS_def (ρ : Env') (i : Nat) : getS ρ i = (ρ[i]?).join := by
  unfold getS
  cases ρ[i]? with
  | none => rfl
  | some y => cases y <;> rfl
@[simp] theorem getS_zero : getS (x :: ρ) 0 = x := by rw [getS_def]; rfl
@[simp] theorem getS_succ {i : Nat} : getS (x :: ρ) (i + 1) = getS ρ i := by rw [getS_def, getS_def]; rfl
@[simp] theorem getS_one {y : Option (D × Nat)} : getS (x :: y :: ρ) 1 = y := by rw [getS_def]; rfl
@[simp] theorem getS_two {y z : Option (D × Nat)} : getS (x :: y :: z :: ρ) 2 = z := by rw [getS_def]; rfl
@[simp] theorem getS_3 {y z u : Option (D × Nat)} : getS (x :: y :: z :: u :: ρ) 3 = u := by rw [getS_def]; rfl
@[simp] theorem getS_4 {y z u v : Option (D × Nat)} : getS (x :: y :: z :: u :: v :: ρ) 4 = v := by rw [getS_def]; rfl
@[simp] theorem getS_5 {y z u v w : Option (D × Nat)} : getS (x :: y :: z :: u :: v :: w :: ρ) 5 = w := by rw [getS_def]; rfl
@[simp] theorem getS_6 {y z u v w a : Option (D × Nat)} : getS (x :: y :: z :: u :: v :: w :: a :: ρ) 6 = a := by rw [getS_def]; rfl
@[simp] theorem getS_7 {y z u v w a b : Option (D × Nat)} : getS (x :: y :: z :: u :: v :: w :: a :: b :: ρ) 7 = b := by rw [getS_def]; rfl
@[simp] theorem getS_8 {y z u v w a b c : Option (D × Nat)} : getS (x :: y :: z :: u :: v :: w :: a :: b :: c :: ρ) 8 = c := by rw [getS_def]; rfl
@[simp] theorem getS_9 {y z u v w a b c e : Option (D × Nat)} : getS (x :: y :: z :: u :: v :: w :: a :: b :: c :: e :: ρ) 9 = e := by rw [getS_def]; rfl
@[simp] theorem getS_10 {y z u v w a b c e f : Option (D × Nat)} : getS (x :: y :: z :: u :: v :: w :: a :: b :: c :: e :: f :: ρ) 10 = f := by rw [getS_def]; rfl
@[simp] theorem liftO_some {α : Type} (a : α) : liftO (some a) = .ok a := rfl
@[simp] theorem liftO_none {α : Type} : liftO (none : Option α) = .stuck := rfl
@[simp] theorem upD_0 : upD (some (d, 0)) ρ = .ok (d, 0, ρ) := by simp [upD]
@[simp] theorem upD_int {i : Int} : upD (some (.int i, n)) ρ = .ok (.int i, 0, ρ) := by simp [upD, still]
@[simp] theorem upD_bool {i : Bool} : upD (some (.bool i, n)) ρ = .ok (.bool i, 0, ρ) := by simp [upD, still]
@[simp] theorem upD_none : upD (some (.none, n)) ρ = .ok (.none, 0, ρ) := by simp [upD, still]
@[simp] theorem upD_str {i : Str} : upD (some (.str i, n)) ρ = .ok (.str i, 0, ρ) := by simp [upD, still]
@[simp] theorem upD_tuple {i : List D} : upD (some (.tuple i, n)) ρ = .ok (.tuple i, 0, ρ) := by simp [upD, still]
theorem frzS_of {i : Nat} {d : D} {n : Nat} (h : getS ρ i = some (d, n)) : frzS ρ i = .ok (d, 0, if n = 0 then ρ else ρ.set i (some (d, 0))) := by
  have h := getS_some h
  unfold frzS
  rw [h]
@[simp] theorem frzS_eq {i : Nat} : frzS ρ i = match getS ρ i with
  | some (d, n) => .ok (d, 0, if n = 0 then ρ else ρ.set i (some (d, 0)))
  | none => .stuck := by
  cases h : getS ρ i with
  | some x => obtain ⟨d, n⟩ := x; exact frzS_of h
  | none =>
    unfold frzS
    rw [getS_def] at h
    cases e : ρ[i]? with
    | none => rfl
    | some y => cases y with
      | none => rfl
      | some z => rw [e] at h; cases h
@[simp] theorem takS_eq {i : Nat} : takS ρ i = match getS ρ i with
  | some (d, n) => .ok (d, n, ρ.set i none)
  | none => .stuck := rfl
@[simp] theorem isB_bool (b : Bool) : isB (.bool b) = some b := rfl
@[simp] theorem isI_int (b : Int) : isI (.int b) = some b := rfl
@[simp] theorem notD_bool (b : Bool) : notD (.bool b) = some (.bool (!b)) := rfl
@[simp] theorem leI_int (i j : Int) : leI (.int i) (.int j) = some (.bool (decide (i ≤ j))) := by simp [leI, iiD]
@[simp] theorem ltI_int (i j : Int) : ltI (.int i) (.int j) = some (.bool (decide (i < j))) := by simp [ltI, iiD]
@[simp] theorem gtI_int (i j : Int) : gtI (.int i) (.int j) = some (.bool (decide (j < i))) := by simp [gtI, iiD]
@[simp] theorem geI_int (i j : Int) : geI (.int i) (.int j) = some (.bool (decide (j ≤ i))) := by simp [geI, iiD]
@[simp] theorem ltA_int (i j : Int) : ltA (.int i) (.int j) = some (.bool (decide (i < j))) := by simp [ltA, ltI, iiD]
@[simp] theorem ltA_tup (xs ys : List D) : ltA (.tuple xs) (.tuple ys) = ltT (.tuple xs) (.tuple ys) := by simp [ltA, ltI, iiD]
@[simp] theorem addI_int (i j : Int) : addI (.int i) (.int j) = some (.int (i + j)) := by simp [addI, iiD]
@[simp] theorem subI_int (i j : Int) : subI (.int i) (.int j) = some (.int (i - j)) := by simp [subI, iiD]
theorem mulI_int (i j : Int) (h : CMulZ i j) : mulI (.int i) (.int j) = some (.int (i * j)) := by simp [mulI, iiD, h]
theorem modI_int (i j : Int) (h : 0 < j) : modI (.int i) (.int j) = some (.int (i % j)) := by simp [modI, iiD, h]
theorem fdivI_int (i j : Int) (h : CDiv i j) : fdivI (.int i) (.int j) = some (.int (i / j)) := by simp [fdivI, iiD, h]
@[simp] theorem addD_int (i j : Int) (n m : Nat) : addD (.int i, n) (.int j, m) = some (.int (i + j), 0) := by simp [addD, addI, iiD]
@[simp] theorem mulD_tup1 (ds : List D) (n m : Nat) : mulD (.tuple ds, n) (.int 1, m) = some (.tuple ds, 0) := by simp [mulD, mulI, iiD, mulT01]
@[simp] theorem mulD_tup0 (ds : List D) (n m : Nat) : mulD (.tuple ds, n) (.int 0, m) = some (.tuple [], 0) := by simp [mulD, mulI, iiD, mulT01]
@[simp] theorem chain_eq (g g' : D → D → Option D) (x y z : D) : chainD g g' x y z = (g x y).bind fun k => (isB k).bind fun k => if k = true then g' y z else some (.bool false) := rfl
@[simp] theorem isinst1_eq (T : String) (x : D × Nat) : isinst1 T x = if noDictTop x.1 = true then some (.bool (isT T x.1), 0) else none := rfl
@[simp] theorem isinst2_eq (T T' : String) (x : D × Nat) : isinst2 T T' x = if noDictTop x.1 = true then some (.bool (isT T x.1 || isT T' x.1)) else none := rfl
@[simp] theorem seqF_eq (f g : Env' → Res (Fl × Env')) : seqF f g ρ = (f ρ >>= fun x => match x.1 with
  | .nx => g x.2
  | fl => .ok (fl, x.2)) := rfl
@[simp] theorem andR_eq (f g : Env' → Res (Bool × Env')) : andR f g ρ = (f ρ >>= fun x => if x.1 = true then g x.2 else .ok (false, x.2)) := rfl
@[simp] theorem orR_eq (f g : Env' → Res (Bool × Env')) : orR f g ρ = (f ρ >>= fun x => if x.1 = true then .ok (true, x.2) else g x.2) := rfl
@[simp] theorem andV_eq (f g : Env' → Res (D × Nat × Env')) : andV f g ρ = (f ρ >>= fun x => liftO (isB x.1) >>= fun k => if k = true then g x.2.2 else .ok (.bool false, 0, x.2.2)) := rfl
@[simp] theorem orV_eq (f g : Env' → Res (D × Nat × Env')) : orV f g ρ = (f ρ >>= fun x => liftO (isB x.1) >>= fun k => if k = true then .ok (.bool true, 0, x.2.2) else g x.2.2) := rfl
@[simp] theorem ifR_eq {α : Type} (c : Env' → Res (Bool × Env')) (f g : Env' → Res α) : ifR c f g ρ = (c ρ >>= fun x => if x.1 = true then f x.2 else g x.2) := rfl
@[simp] theorem ifS_eq (c : Env' → Res (Bool × Env')) (f g : Env' → Res (Fl × Env')) : ifS c f g ρ = (c ρ >>= fun x => if x.1 = true then f x.2 else g x.2) := rfl
@[simp] theorem asgF_eq (f : Env' → Res (D × Nat × Env')) (g : D → Nat → Env' → Res Env') : asgF f g ρ = (f ρ >>= fun x => match g x.1 x.2.1 x.2.2 with
  | .ok ρ' => .ok (.nx, ρ')
  | _ => .stuck) := rfl
@[simp] theorem gNameD_eq (i : Nat) (d : D) (n : Nat) : gNameD i d n ρ = .ok (ρ.set i (some (d, n))) := rfl
@[simp] theorem callR_ok (d : D) (n : Nat) : callR (.ok (d, n)) ρ = .ok (d, n, ρ) := rfl
@[simp] theorem lenD_list (ds : List D) (n : Nat) : lenD [(.list ds, n)] = some (.int ds.length) := rfl
@[simp] theorem lenD_tuple (ds : List D) (n : Nat) : lenD [(.tuple ds, n)] = some (.int ds.length) := rfl
end
end DL

/-! loops by invariants, on the answers alone -/
namespace DL
open PySem PySem.Spec PyProof.Rows L2
@[simp] theorem runP_def (N : Nat) (f : Env' → Res (Fl × Env')) (ds : List D) : runP N f ds = endP (f (env0 N (ds.map fun d => (d, 0)))) := rfl
@[simp] theorem endP_rt (d : D) (n : Nat) (ρ : Env') : endP (.ok (.rt d n, ρ)) = .ok (d, n) := rfl
@[simp] theorem endP_nx (ρ : Env') : endP (.ok (.nx, ρ)) = .ok (.none, 0) := rfl
section
variable {g : D → Nat → Env' → Res Env'} {b : Env' → Res (Fl × Env')} {c : Env' → Res (Bool × Env')} {f : Env' → Res (D × Nat × Env')}
/-- a for that goes through -/
theorem forF_inv (I : Nat → Env' → Prop) : ∀ {ds : List D} {k : Nat} {ρ : Env'}, I k ρ →
    (∀ (i : Nat) (d : D) (ρ : Env'), ds[i]? = some d → I (k + i) ρ → ∃ ρ1 ρ2, g d 0 ρ = .ok ρ1 ∧ (b ρ1 = .ok (.nx, ρ2) ∨ b ρ1 = .ok (.ct, ρ2)) ∧ I (k + i + 1) ρ2) → ∃ ρ', forF g b ds ρ = .ok (.nx, ρ') ∧ I (k + ds.length) ρ'
  | [], k, ρ, h, _ => ⟨ρ, rfl, h⟩
  | d :: ds, k, ρ, h, hs => by
    obtain ⟨ρ1, ρ2, e1, e2, h2⟩ := hs 0 d ρ rfl h
    obtain ⟨ρ', e3, h3⟩ := forF_inv I (ds := ds) (k := k + 1) (ρ := ρ2) h2 fun i d' ρ e hI => by
      have q := hs (i + 1) d' ρ (by simpa using e) (by rw [show k + (i + 1) = k + 1 + i by omega]; exact hI)
      rw [show k + (i + 1) + 1 = k + 1 + i + 1 by omega] at q
      exact q
    refine ⟨ρ', ?_, by rw [List.length_cons, show k + (ds.length + 1) = k + 1 + ds.length by omega]; exact h3⟩
    unfold forF
    rw [e1]
    rcases e2 with e2 | e2 <;> (dsimp only; rw [e2]; exact e3)
/-- a for that hands back at the first place where it does -/
theorem forF_rt {I : Nat → Env' → Prop} {r : D} {m : Nat} : ∀ {ds : List D} {k : Nat} {ρ : Env'} {j : Nat}, I k ρ → j < ds.length →
    (∀ (i : Nat) (d : D) (ρ : Env'), i < j → ds[i]? = some d → I (k + i) ρ → ∃ ρ1 ρ2, g d 0 ρ = .ok ρ1 ∧ (b ρ1 = .ok (.nx, ρ2) ∨ b ρ1 = .ok (.ct, ρ2)) ∧ I (k + i + 1) ρ2) →
    (∀ (d : D) (ρ : Env'), ds[j]? = some d → I (k + j) ρ → ∃ ρ1 ρ2, g d 0 ρ = .ok ρ1 ∧ b ρ1 = .ok (.rt r m, ρ2)) → ∃ ρ', forF g b ds ρ = .ok (.rt r m, ρ')
  | [], k, ρ, j, h, hj, _, _ => by simp at hj
  | d :: ds, k, ρ, 0, h, hj, hs, hr => by
    obtain ⟨ρ1, ρ2, e1, e2⟩ := hr d ρ rfl h
    exact ⟨ρ2, by unfold forF; rw [e1]; dsimp only; rw [e2]; rfl⟩
  | d :: ds, k, ρ, j + 1, h, hj, hs, hr => by
    obtain ⟨ρ1, ρ2, e1, e2, h2⟩ := hs 0 d ρ (by omega) rfl h
    obtain ⟨ρ', e3⟩ := forF_rt (I := I) (ds := ds) (k := k + 1) (ρ := ρ2) (j := j) h2 (by simpa using hj) (fun i d' ρ hi e hI => by
      have q := hs (i + 1) d' ρ (by omega) (by simpa using e) (by rw [show k + (i + 1) = k + 1 + i by omega]; exact hI)
      rw [show k + (i + 1) + 1 = k + 1 + i + 1 by omega] at q
      exact q) (fun d' ρ e hI => hr d' ρ (by simpa using e) (by rw [show k + (j + 1) = k + 1 + j by omega]; exact hI))
    refine ⟨ρ', ?_⟩
    unfold forF
    rw [e1]
    rcases e2 with e2 | e2 <;> (dsimp only; rw [e2]; exact e3)
/-- a while -/
theorem whileF_inv (I J : Env' → Prop) (μ : Env' → Nat) (hs : ∀ ρ, I ρ → ∃ k ρ1, c ρ = .ok (k, ρ1) ∧ (k = false → J ρ1) ∧ (k = true → ∃ ρ2, (b ρ1 = .ok (.nx, ρ2) ∨ b ρ1 = .ok (.ct, ρ2)) ∧ I ρ2 ∧ μ ρ2 < μ ρ)) : ∀ {n : Nat} {ρ : Env'}, I ρ → μ ρ < n → ∃ ρ', whileF c b n ρ = .ok (.nx, ρ') ∧ J ρ'
  | 0, ρ, _, h => by omega
  | n + 1, ρ, hI, h => by
    obtain ⟨k, ρ1, e1, h0, h1⟩ := hs ρ hI
    unfold whileF
    rw [e1]
    cases k with
    | false => exact ⟨ρ1, rfl, h0 rfl⟩
    | true =>
      obtain ⟨ρ2, e2, hI2, hμ⟩ := h1 rfl
      obtain ⟨ρ', e3, hJ⟩ := whileF_inv I J μ hs (n := n) (ρ := ρ2) hI2 (by omega)
      refine ⟨ρ', ?_, hJ⟩
      simp only [bind_ok, if_true]
      rcases e2 with e2 | e2 <;> (rw [e2]; exact e3)
/-- a comprehension that keeps what k says -/
theorem compF_inv {vs : List Nat} (I : Env' → Prop) (k : D → Option D) : ∀ {ds : List D} {ρ : Env'}, I ρ →
    (∀ d ∈ ds, ∀ ρ, I ρ → ∃ ρ1 q ρ2, g d 0 ρ = .ok ρ1 ∧ c ρ1 = .ok (q, ρ2) ∧ (q = false → k d = none ∧ I (wipeD ρ2 vs)) ∧ (q = true → ∃ e n ρ3, f ρ2 = .ok (e, n, ρ3) ∧ k d = some e ∧ I (wipeD ρ3 vs))) →
    ∃ ρ', compF g c f vs ds ρ = .ok (ds.filterMap k, ρ') ∧ I ρ'
  | [], ρ, h, _ => ⟨ρ, rfl, h⟩
  | d :: ds, ρ, h, hs => by
    obtain ⟨ρ1, q, ρ2, e1, e2, h0, h1⟩ := hs d List.mem_cons_self ρ h
    unfold compF
    rw [e1]
    dsimp only
    rw [e2]
    cases q with
    | false =>
      obtain ⟨hk, hI⟩ := h0 rfl
      obtain ⟨ρ', e3, hI'⟩ := compF_inv I k (ds := ds) hI fun d hd => hs d (List.mem_cons_of_mem _ hd)
      refine ⟨ρ', ?_, hI'⟩
      rw [List.filterMap_cons_none hk]
      simpa using e3
    | true =>
      obtain ⟨e, n, ρ3, e4, hk, hI⟩ := h1 rfl
      obtain ⟨ρ', e3, hI'⟩ := compF_inv I k (ds := ds) hI fun d hd => hs d (List.mem_cons_of_mem _ hd)
      refine ⟨ρ', ?_, hI'⟩
      rw [List.filterMap_cons_some hk]
      simp only [noExc_ok, bind_ok, if_true, e4, e3]
/-- .. whose items are told by a property alone, each of them kept -/
theorem compF_ex {vs : List Nat} (I : Nat → Env' → Prop) (Pr : D → Prop) : ∀ {ds : List D} {j : Nat} {ρ : Env'}, I j ρ →
    (∀ i d ρ, d ∈ ds → I i ρ → ∃ ρ1 e n ρ2 ρ3, g d 0 ρ = .ok ρ1 ∧ c ρ1 = .ok (true, ρ2) ∧ f ρ2 = .ok (e, n, ρ3) ∧ Pr e ∧ I (i + 1) (wipeD ρ3 vs)) →
    ∃ es ρ', compF g c f vs ds ρ = .ok (es, ρ') ∧ es.length = ds.length ∧ (∀ e ∈ es, Pr e) ∧ I (j + ds.length) ρ'
  | [], j, ρ, h, _ => ⟨[], ρ, rfl, rfl, fun e he => (by cases he), h⟩
  | d :: ds, j, ρ, h, hs => by
    obtain ⟨ρ1, e, n, ρ2, ρ3, e1, e2, e4, hk, hI⟩ := hs j d ρ List.mem_cons_self h
    obtain ⟨es, ρ', e3, hl, hp, hI'⟩ := compF_ex I Pr (ds := ds) hI fun i d ρ hd => hs i d ρ (List.mem_cons_of_mem _ hd)
    refine ⟨e :: es, ρ', ?_, by simp [hl], fun x hx => ?_, by rw [List.length_cons, show j + (ds.length + 1) = j + 1 + ds.length by omega]; exact hI'⟩
    · unfold compF
      rw [e1]
      dsimp only
      rw [e2]
      simp only [noExc_ok, bind_ok, if_true, e4, e3]
    · rcases List.mem_cons.mp hx with z | z
      · rw [z]; exact hk
      · exact hp x z
end
/-! items -/
section
variable {x y z : D} {xs : List D} {n : Nat}
@[simp] theorem ixT0 : ixD (.tuple (x :: xs), n) (.int 0) = some (x, 0) := by simp [ixD, atI, ixN]
@[simp] theorem ixT1 : ixD (.tuple (x :: y :: xs), n) (.int 1) = some (y, 0) := by
  have h : (1 : Int) < xs.length + 1 + 1 := by omega
  simp [ixD, atI, ixN, h]
@[simp] theorem ixL0 : ixD (.list (x :: xs), n) (.int 0) = some (x, n - 1) := by simp [ixD, atI, ixN]
@[simp] theorem ixL1 : ixD (.list (x :: y :: xs), n) (.int 1) = some (y, n - 1) := by
  have h : (1 : Int) < xs.length + 1 + 1 := by omega
  simp [ixD, atI, ixN, h]
@[simp] theorem ixL2 : ixD (.list (x :: y :: z :: xs), n) (.int 2) = some (z, n - 1) := by
  have h : (2 : Int) < xs.length + 1 + 1 + 1 := by omega
  simp [ixD, atI, ixN, h]
theorem ixTn {k : Nat} (h : xs[k]? = some x) : ixD (.tuple xs, n) (.int (k : Nat)) = some (x, 0) := by
  have hk : k < xs.length := (List.getElem?_eq_some_iff.mp h).1
  have e : xs[k] = x := (List.getElem?_eq_some_iff.mp h).2
  simp [ixD, atI, ixN, hk, e]
theorem ixLn {k : Nat} (h : xs[k]? = some x) : ixD (.list xs, n) (.int (k : Nat)) = some (x, n - 1) := by
  have hk : k < xs.length := (List.getElem?_eq_some_iff.mp h).1
  have e : xs[k] = x := (List.getElem?_eq_some_iff.mp h).2
  simp [ixD, atI, ixN, hk, e]
/-- data of depth n, no dict -/
def Lay (n : Nat) (d : D) : Prop := d.canLay0 = true ∧ d.depth ≤ n
theorem lay_all {n : Nat} : ∀ {ds : List D}, (∀ d ∈ ds, Lay n d) → PyData.canLayAll0 ds = true ∧ PyData.depthAll ds ≤ n
  | [], _ => by simp [PyData.canLayAll0, PyData.depthAll]
  | d :: ds, h => by
    obtain ⟨a, b⟩ := h d List.mem_cons_self
    obtain ⟨c, e⟩ := lay_all (ds := ds) fun x hx => h x (List.mem_cons_of_mem _ hx)
    simp only [PyData.canLayAll0, PyData.depthAll, a, c, Bool.and_self, true_and]
    omega
theorem lay_tuple {n : Nat} {ds : List D} (h : ∀ d ∈ ds, Lay n d) : Lay (n + 1) (.tuple ds) := by
  obtain ⟨a, b⟩ := lay_all h
  exact ⟨by simpa [PyData.canLay0] using a, by simp only [PyData.depth]; omega⟩
theorem lay_list {n : Nat} {ds : List D} (h : ∀ d ∈ ds, Lay n d) : Lay (n + 1) (.list ds) := by
  obtain ⟨a, b⟩ := lay_all h
  exact ⟨by simpa [PyData.canLay0] using a, by simp only [PyData.depth]; omega⟩
theorem lay_int {n : Nat} (i : Int) : Lay n (.int i) := by simp [Lay, PyData.canLay0, PyData.depth]
theorem lay_bool {n : Nat} (i : Bool) : Lay n (.bool i) := by simp [Lay, PyData.canLay0, PyData.depth]
theorem lay_none {n : Nat} : Lay n .none := by simp [Lay, PyData.canLay0, PyData.depth]
theorem Lay.up {n m : Nat} {d : D} (h : Lay n d) (k : n ≤ m) : Lay m d := ⟨h.1, Nat.le_trans h.2 k⟩
theorem lay_ints (ns : List Int) : ∀ d ∈ ns.map PyData.int, Lay 0 d := fun d hd => by
  obtain ⟨i, _, e⟩ := List.mem_map.mp hd
  rw [← e]
  exact lay_int i
theorem lay_pair (p : Int × Int) : Lay 1 (pairV p) := lay_tuple (lay_ints [p.1, p.2])
theorem Lay.shp {n : Nat} {d : D} (h : Lay n d) (k : n ≤ 64) : SeqAt.shaped d = true := by
  unfold SeqAt.shaped
  rw [h.1]
  exact decide_eq_true (Nat.le_trans h.2 k)
mutual
theorem nod_of : ∀ d : D, d.canLay0 = true → noDict d = true
  | .none, _ => rfl
  | .bool _, _ => rfl
  | .int _, _ => rfl
  | .str _, _ => rfl
  | .list ds, h => nodL_of ds (by simpa [PyData.canLay0] using h)
  | .tuple ds, h => nodL_of ds (by simpa [PyData.canLay0] using h)
  | .dict _, h => by simp [PyData.canLay0] at h
theorem nodL_of : ∀ ds : List D, PyData.canLayAll0 ds = true → noDict.noDictL ds = true
  | [], _ => rfl
  | d :: ds, h => by
    simp only [PyData.canLayAll0, Bool.and_eq_true] at h
    show (noDict d && noDict.noDictL ds) = true
    rw [nod_of d h.1, nodL_of ds h.2]
    rfl
end
theorem eqD_lay {n m : Nat} {a b : D} (ha : Lay n a) (hb : Lay m b) (hn : n ≤ 64) (hm : m ≤ 64) : eqD a b = some (.bool (PyData.eqv a b)) := by
  unfold eqD
  rw [nod_of a ha.1, nod_of b hb.1, ha.shp hn, hb.shp hm]
  rfl
theorem neD_lay {n m : Nat} {a b : D} (ha : Lay n a) (hb : Lay m b) (hn : n ≤ 64) (hm : m ≤ 64) : neD a b = some (.bool (!PyData.eqv a b)) := by
  unfold neD
  rw [nod_of a ha.1, nod_of b hb.1, ha.shp hn, hb.shp hm]
  rfl
@[simp] theorem eqv_int (i j : Int) : PyData.eqv (.int i) (.int j) = decide (i = j) := by
  simp only [PyData.eqv]
  by_cases h : i = j <;> simp [h]
@[simp] theorem eqv_bool (i j : Bool) : PyData.eqv (.bool i) (.bool j) = decide (i = j) := by
  simp only [PyData.eqv]
  cases i <;> cases j <;> rfl
@[simp] theorem eqD_int (i j : Int) : eqD (.int i) (.int j) = some (.bool (decide (i = j))) := by
  rw [eqD_lay (lay_int (n := 0) i) (lay_int (n := 0) j) (by omega) (by omega), eqv_int]
@[simp] theorem neD_int (i j : Int) : neD (.int i) (.int j) = some (.bool (!decide (i = j))) := by
  rw [neD_lay (lay_int (n := 0) i) (lay_int (n := 0) j) (by omega) (by omega), eqv_int]
theorem eqv_self {n : Nat} {d : D} (h : Lay n d) : PyData.eqv d d = true := PySem.SeqAt.eqv_refl d h.1
theorem eqvAll_map {α : Type} [DecidableEq α] {e : α → D} (he : ∀ a b, PyData.eqv (e a) (e b) = decide (a = b)) : ∀ xs ys : List α, PyData.eqvAll (xs.map e) (ys.map e) = decide (xs = ys)
  | [], [] => by simp [PyData.eqvAll]
  | [], _ :: _ => by simp [PyData.eqvAll]
  | _ :: _, [] => by simp [PyData.eqvAll]
  | x :: xs, y :: ys => by
    rw [List.map_cons, List.map_cons, PyData.eqvAll, he, eqvAll_map he xs ys]
    by_cases h : x = y <;> simp [h]
theorem eqv_list {α : Type} [DecidableEq α] {e : α → D} (he : ∀ a b, PyData.eqv (e a) (e b) = decide (a = b)) (xs ys : List α) : PyData.eqv (.list (xs.map e)) (.list (ys.map e)) = decide (xs = ys) := by
  rw [PyData.eqv, eqvAll_map he]
theorem eqv_tuple {α : Type} [DecidableEq α] {e : α → D} (he : ∀ a b, PyData.eqv (e a) (e b) = decide (a = b)) (xs ys : List α) : PyData.eqv (.tuple (xs.map e)) (.tuple (ys.map e)) = decide (xs = ys) := by
  rw [PyData.eqv, eqvAll_map he]
theorem eqv_pair (p q : Int × Int) : PyData.eqv (pairV p) (pairV q) = decide (p = q) := by
  have h := eqv_tuple eqv_int [p.1, p.2] [q.1, q.2]
  rw [show pairV p = .tuple ([p.1, p.2].map PyData.int) from rfl, show pairV q = .tuple ([q.1, q.2].map PyData.int) from rfl, h]
  by_cases e : p = q
  · subst e; simp
  · have : ¬ (p.1 = q.1 ∧ p.2 = q.2) := fun z => e (Prod.ext z.1 z.2)
    simp [e, this]
@[simp] theorem noDictTop_l (ds : List D) : noDictTop (.list ds) = true := rfl
@[simp] theorem noDictTop_t (ds : List D) : noDictTop (.tuple ds) = true := rfl
@[simp] theorem noDictTop_i (i : Int) : noDictTop (.int i) = true := rfl
@[simp] theorem noDictTop_b (i : Bool) : noDictTop (.bool i) = true := rfl
@[simp] theorem noDictTop_n : noDictTop .none = true := rfl
theorem any_map {α : Type} [DecidableEq α] {e : α → D} (he : ∀ a b, PyData.eqv (e a) (e b) = decide (a = b)) (x : α) : ∀ xs : List α, ((xs.map e).any fun z => PyData.eqv z (e x)) = decide (x ∈ xs)
  | [] => by simp
  | a :: as => by
    rw [List.map_cons, List.any_cons, any_map he x as, he]
    by_cases h : a = x
    · subst h; simp
    · have : ¬ x = a := fun z => h z.symm
      simp [h, this]
/-- x in xs -/
theorem in_map {α : Type} [DecidableEq α] {e : α → D} {n : Nat} (he : ∀ a b, PyData.eqv (e a) (e b) = decide (a = b)) (hl : ∀ a, Lay n (e a)) (hn : n < 64) (neg : Bool) (x : α) (xs : List α) {y : D} (hy : itemsD y = some (xs.map e)) :
    inD neg (e x) y = some (.bool (if neg then !decide (x ∈ xs) else decide (x ∈ xs))) := by
  have ll : Lay (n + 1) (.list (xs.map e)) := lay_list fun d hd => by
    obtain ⟨a, _, rfl⟩ := List.mem_map.mp hd
    exact hl a
  unfold inD
  rw [hy, Option.bind_some, nod_of _ (hl x).1, nod_of _ ll.1, (hl x).shp (by omega), ll.shp (by omega), any_map he]
  rfl
theorem in_ints (i : Int) (ns : List Int) : inD false (.int i) (.list (ns.map .int)) = some (.bool (decide (i ∈ ns))) := in_map eqv_int (n := 0) (fun a => lay_int a) (by omega) false i ns rfl
theorem in_intsT (i : Int) (ns : List Int) : inD false (.int i) (.tuple (ns.map .int)) = some (.bool (decide (i ∈ ns))) := in_map eqv_int (n := 0) (fun a => lay_int a) (by omega) false i ns rfl
theorem ni_ints (i : Int) (ns : List Int) : inD true (.int i) (.list (ns.map .int)) = some (.bool (!decide (i ∈ ns))) := in_map eqv_int (n := 0) (fun a => lay_int a) (by omega) true i ns rfl
theorem ni_intsT (i : Int) (ns : List Int) : inD true (.int i) (.tuple (ns.map .int)) = some (.bool (!decide (i ∈ ns))) := in_map eqv_int (n := 0) (fun a => lay_int a) (by omega) true i ns rfl
theorem in_pairsT (p : Int × Int) (ps : List (Int × Int)) : inD false (pairV p) (.tuple (ps.map pairV)) = some (.bool (decide (p ∈ ps))) := by
  have h := in_map eqv_pair lay_pair (by omega) false p ps (y := .tuple (ps.map pairV)) rfl
  rw [h]
  by_cases q : p ∈ ps <;> simp [q]
theorem ne_nilL {n : Nat} {ds : List D} (h : ∀ d ∈ ds, Lay n d) (hn : n < 64) : neD (.list ds) (.list []) = some (.bool (!ds.isEmpty)) := by
  rw [neD_lay (lay_list h) (lay_list (n := 0) (ds := []) (by simp)) (by omega) (by omega)]
  cases ds <;> simp [PyData.eqv, PyData.eqvAll]
theorem ne_nilT {n : Nat} {ds : List D} (h : ∀ d ∈ ds, Lay n d) (hn : n < 64) : neD (.tuple ds) (.tuple []) = some (.bool (!ds.isEmpty)) := by
  rw [neD_lay (lay_tuple h) (lay_tuple (n := 0) (ds := []) (by simp)) (by omega) (by omega)]
  cases ds <;> simp [PyData.eqv, PyData.eqvAll]
theorem eq_nilT {n : Nat} {ds : List D} (h : ∀ d ∈ ds, Lay n d) (hn : n < 64) : eqD (.tuple ds) (.tuple []) = some (.bool ds.isEmpty) := by
  rw [eqD_lay (lay_tuple h) (lay_tuple (n := 0) (ds := []) (by simp)) (by omega) (by omega)]
  cases ds <;> simp [PyData.eqv, PyData.eqvAll]
@[simp] theorem gTup_eq (g : List D → Env' → Res Env') (ds : List D) (n : Nat) (ρ : Env') : gTupD g (.tuple ds) n ρ = g ds ρ := rfl
@[simp] theorem gCons_eq (g : D → Nat → Env' → Res Env') (g' : List D → Env' → Res Env') (d : D) (r : List D) (ρ : Env') : gConsD g g' (d :: r) ρ = (g d 0 ρ >>= fun ρ1 => g' r ρ1) := rfl
@[simp] theorem gNil_eq (ρ : Env') : gNilD [] ρ = .ok ρ := rfl
theorem map_get {α : Type} {e : α → D} {xs : List α} {i : Nat} {d : D} (h : (xs.map e)[i]? = some d) : ∃ x, xs[i]? = some x ∧ d = e x := by
  rw [List.getElem?_map] at h
  cases q : xs[i]? with
  | none => rw [q] at h; cases h
  | some x => rw [q] at h; cases h; exact ⟨x, rfl, rfl⟩
@[simp] theorem isNotD_none : isNotD .none .none = some (.bool false) := rfl
theorem lex_pair (p q : Int × Int) : HT.lexLt [p.1, p.2] [q.1, q.2] = SrtO.lexB p q := by
  unfold SrtO.lexB
  by_cases h : p.1 = q.1
  · simp [HT.lexLt, h]
    omega
  · simp [HT.lexLt, h]
theorem ltA_pair (p q : Int × Int) : ltA (pairV p) (pairV q) = some (.bool (SrtO.lexB p q)) := by
  show ltA (.tuple [.int p.1, .int p.2]) (.tuple [.int q.1, .int q.2]) = _
  rw [ltA_tup, ← lex_pair]
  rfl
end
section
variable {g : D → Nat → Env' → Res Env'} {b : Env' → Res (Fl × Env')} {c : Env' → Res (Bool × Env')} {f : Env' → Res (D × Nat × Env')}
theorem compF_map {α : Type} {vs : List Nat} (I : Env' → Prop) (e : α → D) (p : α → Bool) (h : α → D) : ∀ {xs : List α} {ρ : Env'}, I ρ →
    (∀ x ∈ xs, ∀ ρ, I ρ → ∃ ρ1 ρ2, g (e x) 0 ρ = .ok ρ1 ∧ c ρ1 = .ok (p x, ρ2) ∧ (p x = false → I (wipeD ρ2 vs)) ∧ (p x = true → ∃ n ρ3, f ρ2 = .ok (h x, n, ρ3) ∧ I (wipeD ρ3 vs))) →
    ∃ ρ', compF g c f vs (xs.map e) ρ = .ok ((xs.filter p).map h, ρ') ∧ I ρ'
  | [], ρ, hI, _ => ⟨ρ, rfl, hI⟩
  | x :: xs, ρ, hI, hs => by
    obtain ⟨ρ1, ρ2, e1, e2, h0, h1⟩ := hs x List.mem_cons_self ρ hI
    rw [List.map_cons]
    unfold compF
    rw [e1]
    dsimp only
    rw [e2]
    cases q : p x with
    | false =>
      obtain ⟨ρ', e3, hI'⟩ := compF_map I e p h (xs := xs) (h0 q) fun y hy => hs y (List.mem_cons_of_mem _ hy)
      refine ⟨ρ', ?_, hI'⟩
      rw [List.filter_cons_of_neg (by simp [q])]
      simpa using e3
    | true =>
      obtain ⟨n, ρ3, e4, hI3⟩ := h1 q
      obtain ⟨ρ', e3, hI'⟩ := compF_map I e p h (xs := xs) hI3 fun y hy => hs y (List.mem_cons_of_mem _ hy)
      refine ⟨ρ', ?_, hI'⟩
      rw [List.filter_cons_of_pos (by simp [q]), List.map_cons]
      simp only [noExc_ok, bind_ok, if_true, e4, e3]
/-- .. without a test -/
theorem compF_all {α : Type} {vs : List Nat} (I : Env' → Prop) (e : α → D) (h : α → D) {xs : List α} {ρ : Env'} (hI : I ρ)
    (hs : ∀ x ∈ xs, ∀ ρ, I ρ → ∃ ρ1 n ρ3, g (e x) 0 ρ = .ok ρ1 ∧ f ρ1 = .ok (h x, n, ρ3) ∧ I (wipeD ρ3 vs)) : ∃ ρ', compF g yesT f vs (xs.map e) ρ = .ok (xs.map h, ρ') ∧ I ρ' := by
  obtain ⟨ρ', q, hI'⟩ := compF_map (g := g) (c := yesT) (f := f) (vs := vs) I e (fun _ => true) h (xs := xs) hI fun x hx ρ hρ => by
    obtain ⟨ρ1, n, ρ3, e1, e2, hI3⟩ := hs x hx ρ hρ
    exact ⟨ρ1, ρ1, e1, rfl, fun z => (by cases z), fun _ => ⟨n, ρ3, e2, hI3⟩⟩
  exact ⟨ρ', by rw [q, List.filter_eq_self.mpr fun _ _ => rfl], hI'⟩
theorem lcF_eq {fi : Env' → Res (List D × Env')} {vs : List Nat} {ρ ρ1 ρ2 : Env'} {ds es : List D} (e1 : fi ρ = .ok (ds, ρ1)) (hl : ds.length ≤ line) (e2 : compF g c f vs ds (wipeD ρ1 vs) = .ok (es, ρ2)) : lcF fi g c f vs ρ = .ok (.list es, 1, restD ρ1 ρ2 vs) := by
  unfold lcF
  rw [e1]
  simp only [bind_ok, if_pos hl, e2]
theorem bools_map : ∀ bs : List Bool, boolsD (bs.map .bool) = some bs
  | [] => rfl
  | b :: bs => by rw [List.map_cons, boolsD, bools_map bs]; rfl
theorem ints_map : ∀ bs : List Int, intsD (bs.map .int) = some bs
  | [] => rfl
  | b :: bs => by rw [List.map_cons, intsD, ints_map bs]; rfl
theorem all_map (bs : List Bool) (n : Nat) : allD [(.list (bs.map .bool), n)] = some (.bool (bs.all id)) := by
  simp [allD, bools_map]
@[simp] theorem line_val : line = 16777216 := rfl
@[simp] theorem seqD_list {f : Env' → Res (D × Nat × Env')} {ρ ρ1 : Env'} {ds : List D} {n : Nat} (h : f ρ = .ok (.list ds, n, ρ1)) : seqD f ρ = .ok (ds, ρ1) := by unfold seqD; rw [h]; rfl
@[simp] theorem seqD_tuple {f : Env' → Res (D × Nat × Env')} {ρ ρ1 : Env'} {ds : List D} {n : Nat} (h : f ρ = .ok (.tuple ds, n, ρ1)) : seqD f ρ = .ok (ds, ρ1) := by unfold seqD; rw [h]; rfl
theorem zip_ints (xs ys : List Int) : zipD (xs.map .int) (ys.map .int) = (xs.zip ys).map pairV := by
  rw [zipD, List.zip_map, List.map_map]
  rfl
theorem cut_from1 (ds : List D) : cutD ds (some 1) none = ds.drop 1 := by
  simp only [cutD, HT.sIx]
  cases ds with
  | nil => simp
  | cons d ds => simp
theorem slD_tup (ds : List D) (n : Nat) (lo hi : Option Int) : slD (.tuple ds, n) lo hi = some (.tuple (cutD ds lo hi), 0) := by
  simp [slD]
theorem compO_all {α : Type} {vs : List Nat} (I : Env' → Prop) (e : α → D) (h : α → D) : ∀ {xs : List α} {ρ : Env'}, I ρ → (∀ x ∈ xs, ∀ ρ, I ρ → ∃ ρ1 ρ3, g (e x) 0 ρ = .ok ρ1 ∧ f ρ1 = .ok (h x, 1, ρ3) ∧ I (wipeD ρ3 vs)) → ∃ ρ', compO g f vs (xs.map e) ρ = .ok (xs.map h, ρ') ∧ I ρ'
  | [], ρ, hI, _ => ⟨ρ, rfl, hI⟩
  | x :: xs, ρ, hI, hs => by
    obtain ⟨ρ1, ρ3, e1, e2, h3⟩ := hs x List.mem_cons_self ρ hI
    obtain ⟨ρ', q, hI'⟩ := compO_all I e h (xs := xs) h3 fun y hy => hs y (List.mem_cons_of_mem _ hy)
    refine ⟨ρ', ?_, hI'⟩
    rw [List.map_cons]
    unfold compO
    rw [e1]
    dsimp only
    rw [e2]
    simp only [noExc_ok, bind_ok, if_true, q, List.map_cons]
theorem lcO_eq {fi : Env' → Res (List D × Env')} {vs : List Nat} {ρ ρ1 ρ2 : Env'} {ds es : List D} (e1 : fi ρ = .ok (ds, ρ1)) (hl : ds.length ≤ line) (e2 : compO g f vs ds (wipeD ρ1 vs) = .ok (es, ρ2)) : lcO fi g f vs ρ = .ok (.list es, 2, restD ρ1 ρ2 vs) := by
  unfold lcO
  rw [e1]
  simp only [bind_ok, if_pos hl, e2]
/-- rows of ints -/
def rowsD (n : Nat) (r : Nat → List Int) : D := .list ((List.range n).map fun k => .list ((r k).map .int))
theorem app2_rows {n : Nat} {r : Nat → List Int} {k : Nat} {v : Int} {m : Nat} (hk : k < n) (hl : (r k).length < line) : app2D (rowsD n r, 2) (k : Nat) (.int v, m) = some (rowsD n fun i => if i = k then r k ++ [v] else r i, 2) := by
  have e1 : ixN n (k : Int) = some k := by simp [ixN, hk]
  have hl' : (r k).length < 16777216 := hl
  simp only [app2D, rowsD, List.length_map, List.length_range, e1]
  simp [still, hk, hl']
  refine List.ext_getElem (by simp) fun i h1 h2 => ?_
  simp only [List.length_set, List.length_map, List.length_range] at h1
  by_cases e : i = k
  · subst e; simp
  · have : ¬ k = i := fun z => e z.symm
    simp [e, this, List.getElem_set]
theorem sortedD_ints (ns : List Int) (n : Nat) : sortedD [(.list (ns.map .int), n)] = some (.list ((sortI ns).map .int), 1) := by
  simp [sortedD, sortedI, ints_map]
@[simp] theorem app2F_eq (i : Nat) (fk fe : Env' → Option (D × Nat)) (ρ : Env') : app2F i fk fe ρ = (liftO ((getS ρ i).bind fun x => (fk ρ).bind fun k => (isI k.1).bind fun j => (fe ρ).bind fun y => app2D x j y) >>= fun x => .ok (.none, 0, ρ.set i (some x))) := rfl
@[simp] theorem appendF_eq (i : Nat) (f : Env' → Res (D × Nat × Env')) (ρ : Env') : appendF i f ρ = (if isOwnL (getS ρ i) = true then f ρ >>= fun y => liftO ((getS y.2.2 i).bind fun x => appD x (y.1, y.2.1)) >>= fun x => .ok (.none, 0, y.2.2.set i (some x)) else .stuck) := rfl
@[simp] theorem isOwnL_eq (ds : List D) (n : Nat) : isOwnL (some (.list ds, n + 1)) = true := rfl
@[simp] theorem isOwnL_1 (ds : List D) : isOwnL (some (.list ds, 1)) = true := rfl
theorem appD_1 (ds : List D) (d : D) (m : Nat) (h : ds.length < line) : appD (.list ds, 1) (d, m) = some (.list (ds ++ [d]), 1) := by
  have h' : ds.length < 16777216 := h
  simp [appD, h']
@[simp] theorem seqD_eq (f : Env' → Res (D × Nat × Env')) (ρ : Env') : seqD f ρ = (f ρ >>= fun x => match x.1 with
  | .list ds => .ok (ds, x.2.2)
  | .tuple ds => .ok (ds, x.2.2)
  | _ => .stuck) := rfl
theorem pow62 : (2 : Int) ^ 62 = 4611686018427387904 := by decide
theorem range1_int (j : Int) (n : Nat) (h0 : -1000 ≤ j) (h1 : j < 1000000) : range1D [(.int j, n)] = some (rngN 0 j.toNat) := by
  unfold range1D
  rw [pow62]
  dsimp only
  rw [if_pos ⟨by omega, by omega⟩]
theorem range2_int (i j : Int) (n m : Nat) (h0 : -1000 ≤ i) (h1 : i < 1000000) (h2 : -1000 ≤ j) (h3 : j < 1000000) : range2D [(.int i, n), (.int j, m)] = some (rngN i (j - i).toNat) := by
  unfold range2D
  rw [pow62]
  dsimp only
  rw [if_pos ⟨by omega, by omega, by omega, by omega⟩]
theorem r1I_of {f : Env' → Res (List (D × Nat) × Env')} {ρ ρ1 : Env'} {xs : List (D × Nat)} {ds : List D} (h : f ρ = .ok (xs, ρ1)) (h2 : range1D xs = some ds) : r1I f ρ = .ok (ds, ρ1) := by
  unfold r1I
  rw [h, bind_ok, h2]
  rfl
theorem r2I_of {f : Env' → Res (List (D × Nat) × Env')} {ρ ρ1 : Env'} {xs : List (D × Nat)} {ds : List D} (h : f ρ = .ok (xs, ρ1)) (h2 : range2D xs = some ds) : r2I f ρ = .ok (ds, ρ1) := by
  unfold r2I
  rw [h, bind_ok, h2]
  rfl
theorem binE_of {g : D × Nat → D × Nat → Option (D × Nat)} {f : D2F} {ρ ρ1 : Env'} {a b c : D × Nat} (h : f ρ = .ok (a, b, ρ1)) (h2 : g a b = some c) : binE g f ρ = .ok (c.1, c.2, ρ1) := by
  unfold binE
  rw [h, bind_ok, h2]
  rfl
theorem callE_of {g : List (D × Nat) → Option (D × Nat)} {f : OF} {ρ ρ1 : Env'} {a : List (D × Nat)} {c : D × Nat} (h : f ρ = .ok (a, ρ1)) (h2 : g a = some c) : callE g f ρ = .ok (c.1, c.2, ρ1) := by
  unfold callE
  rw [h, bind_ok, h2]
  rfl
end
end DL

namespace DL
open PySem PySem.Spec PyProof.Rows L2
/-! ### max, min of a list of ints -/
def maxI : List Int → Option Int
  | [] => none
  | x :: xs => some (xs.foldl max x)
def minI : List Int → Option Int
  | [] => none
  | x :: xs => some (xs.foldl min x)
theorem foldl_max : ∀ (xs : List Int) (x : Int), x ≤ xs.foldl max x ∧ (∀ y ∈ xs, y ≤ xs.foldl max x) ∧ (xs.foldl max x = x ∨ xs.foldl max x ∈ xs)
  | [], x => ⟨Int.le_refl _, by simp, .inl rfl⟩
  | y :: xs, x => by
    obtain ⟨a, b, c⟩ := foldl_max xs (max x y)
    refine ⟨by rw [List.foldl_cons]; omega, fun z hz => ?_, ?_⟩
    · rw [List.foldl_cons]
      rcases List.mem_cons.mp hz with rfl | hz
      · omega
      · exact b z hz
    · rw [List.foldl_cons]
      rcases c with c | c
      · rw [c]
        by_cases h : y ≤ x
        · exact .inl (by omega)
        · exact .inr (by rw [show max x y = y by omega]; exact List.mem_cons_self)
      · exact .inr (List.mem_cons_of_mem _ c)
theorem foldl_min : ∀ (xs : List Int) (x : Int), xs.foldl min x ≤ x ∧ (∀ y ∈ xs, xs.foldl min x ≤ y) ∧ (xs.foldl min x = x ∨ xs.foldl min x ∈ xs)
  | [], x => ⟨Int.le_refl _, by simp, .inl rfl⟩
  | y :: xs, x => by
    obtain ⟨a, b, c⟩ := foldl_min xs (min x y)
    refine ⟨by rw [List.foldl_cons]; omega, fun z hz => ?_, ?_⟩
    · rw [List.foldl_cons]
      rcases List.mem_cons.mp hz with rfl | hz
      · omega
      · exact b z hz
    · rw [List.foldl_cons]
      rcases c with c | c
      · rw [c]
        by_cases h : x ≤ y
        · exact .inl (by omega)
        · exact .inr (by rw [show min x y = y by omega]; exact List.mem_cons_self)
      · exact .inr (List.mem_cons_of_mem _ c)
theorem maxI_of {ns : List Int} {m k : Int} (h : maxI ns = some k) (hm : m ∈ ns) (hl : ∀ y, y ∈ ns → y ≤ m) : m = k := by
  cases ns with
  | nil => cases h
  | cons x xs =>
    cases h
    obtain ⟨a, b, c⟩ := foldl_max xs x
    have h1 : xs.foldl max x ≤ m := by
      rcases c with c | c
      · rw [c]; exact hl x List.mem_cons_self
      · exact hl _ (List.mem_cons_of_mem _ c)
    rcases List.mem_cons.mp hm with rfl | hm
    · omega
    · have := b m hm; omega
theorem minI_of {ns : List Int} {m k : Int} (h : minI ns = some k) (hm : m ∈ ns) (hl : ∀ y, y ∈ ns → m ≤ y) : m = k := by
  cases ns with
  | nil => cases h
  | cons x xs =>
    cases h
    obtain ⟨a, b, c⟩ := foldl_min xs x
    have h1 : m ≤ xs.foldl min x := by
      rcases c with c | c
      · rw [c]; exact hl x List.mem_cons_self
      · exact hl _ (List.mem_cons_of_mem _ c)
    rcases List.mem_cons.mp hm with rfl | hm
    · omega
    · have := b m hm; omega
def max1 : List (D × Nat) → Option D
  | [(.list ds, _)] => (intsD ds).bind fun ns => (maxI ns).map .int
  | _ => none
def min1 : List (D × Nat) → Option D
  | [(.list ds, _)] => (intsD ds).bind fun ns => (minI ns).map .int
  | _ => none
section
variable {X : Cx}
theorem cp_max1 (hc : X.calm = true) : CallP X (.builtin "max") max1 := by
  refine ⟨_, cr_max hc, fun F H vs ds d Q oc e q => ?_⟩
  match ds, e with
  | [(.list xs, n)], e =>
    simp only [max1] at e
    cases hi : intsD xs with
    | none => rw [hi] at e; cases e
    | some ns =>
      rw [hi, Option.bind_some] at e
      cases hm : maxI ns with
      | none => rw [hm] at e; cases e
      | some k =>
        rw [hm] at e
        cases e
        obtain ⟨v, A, rfl, o⟩ := owns1 oc
        obtain ⟨a, us, B, rfl, r, l⟩ := own_list o
        rw [l.ints hi] at r
        refine ⟨a, ns, rfl, r, ?_, fun m h1 h2 => ?_⟩
        · cases ns with
          | nil => cases hm
          | cons _ _ => simp
        · rw [maxI_of hm h1 h2]; exact q _ (.int _)
theorem cp_min1 (hc : X.calm = true) : CallP X (.builtin "min") min1 := by
  refine ⟨_, cr_min hc, fun F H vs ds d Q oc e q => ?_⟩
  match ds, e with
  | [(.list xs, n)], e =>
    simp only [min1] at e
    cases hi : intsD xs with
    | none => rw [hi] at e; cases e
    | some ns =>
      rw [hi, Option.bind_some] at e
      cases hm : minI ns with
      | none => rw [hm] at e; cases e
      | some k =>
        rw [hm] at e
        cases e
        obtain ⟨v, A, rfl, o⟩ := owns1 oc
        obtain ⟨a, us, B, rfl, r, l⟩ := own_list o
        rw [l.ints hi] at r
        refine ⟨a, ns, rfl, r, ?_, fun m h1 h2 => ?_⟩
        · cases ns with
          | nil => cases hm
          | cons _ _ => simp
        · rw [minI_of hm h1 h2]; exact q _ (.int _)
/-! ### sorted(set(..)) of pairs of ints that are not negative -/
def nubP : List (Int × Int) → List (Int × Int)
  | [] => []
  | p :: ps => if p ∈ ps then nubP ps else p :: nubP ps
theorem mem_nubP {p : Int × Int} : ∀ {ps : List (Int × Int)}, p ∈ nubP ps ↔ p ∈ ps
  | [] => Iff.rfl
  | q :: ps => by
    unfold nubP
    by_cases h : q ∈ ps
    · rw [if_pos h, mem_nubP, List.mem_cons]
      exact ⟨.inr, fun z => z.elim (fun e => e ▸ h) id⟩
    · rw [if_neg h, List.mem_cons, List.mem_cons, mem_nubP]
theorem nubP_nodup : ∀ {ps : List (Int × Int)}, (nubP ps).Nodup
  | [] => List.nodup_nil
  | q :: ps => by
    unfold nubP
    by_cases h : q ∈ ps
    · rw [if_pos h]; exact nubP_nodup
    · rw [if_neg h]; exact List.nodup_cons.mpr ⟨fun z => h (mem_nubP.mp z), nubP_nodup⟩
def okP (ps : List (Int × Int)) : Bool := decide (ps.length < 64) && ps.all fun p => decide (0 ≤ p.1) && decide (0 ≤ p.2)
def sortSetD : List (D × Nat) → Option (D × Nat)
  | [(.list ds, _)] => (pairsD ds).bind fun ps => if okP ps = true then some (.list ((sortP (nubP ps)).map pairV), 1) else none
  | _ => none
def tI (p : Int × Int) : List Int := [p.1, p.2]
theorem tI_inj {p q : Int × Int} (h : tI p = tI q) : p = q := by
  unfold tI at h
  simp only [List.cons.injEq, and_true] at h
  exact Prod.ext h.1 h.2
/-- the addresses of the pairs -/
theorem ks_of {K : PySem.W.Frag} {F : AS} {H : Hp} : ∀ {ps : List (Int × Int)} {vs : List V}, RepL K F H (ps.map pairV) vs → ∃ ks : List (Addr × List Int), vs = ks.map (fun p => V.ref p.1) ∧ ks.map (·.2) = ps.map tI ∧ ∀ p ∈ ks, SqT K H p.1 (p.2.map V.int)
  | [], _, .nil => ⟨[], rfl, rfl, fun p hp => by cases hp⟩
  | p :: ps, _, .cons r t => by
    obtain ⟨a, rfl, h⟩ := pair_at r
    obtain ⟨ks, rfl, e, hk⟩ := ks_of t
    exact ⟨(a, tI p) :: ks, rfl, by rw [List.map_cons, List.map_cons, e], fun q hq => by
      rcases List.mem_cons.mp hq with rfl | hq
      · exact h
      · exact hk q hq⟩
theorem sqt_upd {K : PySem.W.Frag} {H : Hp} {a t : Addr} {o : HO} {xs : List V} (hn : H a = none) (h : SqT K H t xs) : SqT K (upd H a o) t xs := by
  rcases h with h | h
  · refine .inl ?_
    rcases h with h | ⟨od, h⟩
    · exact .inl (by rw [upd_ne fun z => by rw [z, hn] at h; cases h]; exact h)
    · exact .inr ⟨od, by rw [upd_ne fun z => by rw [z, hn] at h; cases h]; exact h⟩
  · exact .inr h
theorem top_of (ps : List (Int × Int)) : ∃ B : Int, ∀ p ∈ ps, p.1 < B ∧ p.2 < B := by
  induction ps with
  | nil => exact ⟨0, fun p hp => by cases hp⟩
  | cons q ps ih =>
    obtain ⟨B, h⟩ := ih
    refine ⟨max B (max (q.1 + 1) (q.2 + 1)), fun p hp => ?_⟩
    rcases List.mem_cons.mp hp with rfl | hp
    · omega
    · have := h p hp; omega
theorem pairs_of {ps : List (Int × Int)} : ∀ {ls : List (List Int)}, (∀ l ∈ ls, ∃ p ∈ ps, l = tI p) → ∃ rs : List (Int × Int), ls = rs.map tI ∧ ∀ r ∈ rs, r ∈ ps
  | [], _ => ⟨[], rfl, fun r hr => by cases hr⟩
  | l :: ls, h => by
    obtain ⟨p, hp, rfl⟩ := h l List.mem_cons_self
    obtain ⟨rs, rfl, hr⟩ := pairs_of (ls := ls) fun l hl => h l (List.mem_cons_of_mem _ hl)
    exact ⟨p :: rs, rfl, fun r hr' => by
      rcases List.mem_cons.mp hr' with rfl | hr'
      · exact hp
      · exact hr r hr'⟩
theorem leP_code {B : Int} {p q : Int × Int} (hp : TS.Bd B (tI p)) (hq : TS.Bd B (tI q)) (h : TS.code B (tI p) ≤ TS.code B (tI q)) : leP p q = true := by
  have := code_lex hp hq h
  unfold leP
  rw [Bool.not_eq_true', SrtO.lexB_no]
  omega
/-- what set(..) and sorted(..) of it do to a list of pairs -/
theorem sortset_core (hc : X.calm = true) {F : AS} {H : Hp} {vs : List V} {ds : List (D × Nat)} {c : D × Nat} {Q : VK} (hd : ∀ a, F a → H a ≠ none) (oc : OwnsC X.K F H ds vs) (e : sortSetD ds = some c)
    (q : ∀ v H' F' C, Alloc F H F' H' C → Own X.K F' H' c.2 c.1 v C → Q v H') : rSetOfT X.K X.prog X.w vs H fun v H2 => rSortedT X.K X.prog X.w [v] H2 Q := by
  match ds, e with
  | [(.list xs, n)], e =>
    simp only [sortSetD] at e
    cases hi : pairsD xs with
    | none => rw [hi] at e; cases e
    | some ps =>
      rw [hi, Option.bind_some] at e
      split at e
      case isFalse => cases e
      rename_i hok
      cases e
      unfold okP at hok
      simp only [Bool.and_eq_true, decide_eq_true_eq, List.all_eq_true] at hok
      obtain ⟨h64, hnn⟩ := hok
      obtain ⟨v, A, rfl, o⟩ := owns1 oc
      obtain ⟨l, us, B', rfl, r, lo⟩ := own_list o
      have ex := pairsD_some hi
      subst ex
      have lr := own_pairs lo
      obtain ⟨ks, rfl, ek, hk⟩ := ks_of lr
      have kl : ks.length = ps.length := by
        have := congrArg List.length ek
        simpa using this
      refine ⟨l, ks, rfl, r, hk, by omega, fun a L hn hL hall => ?_⟩
      obtain ⟨B, hB⟩ := top_of ps
      have bd : ∀ p ∈ ps, TS.Bd B (tI p) := fun p hp m hm => by
        have h1 := hnn p hp
        have h2 := hB p hp
        unfold tI at hm
        simp only [List.mem_cons, List.not_mem_nil, or_false] at hm
        rcases hm with rfl | rfl <;> omega
      have inps : ∀ x ∈ ks, ∃ p ∈ ps, x.2 = tI p := fun x hx => by
        have : x.2 ∈ ks.map (·.2) := List.mem_map.mpr ⟨x, hx, rfl⟩
        rw [ek] at this
        obtain ⟨p, hp, e⟩ := List.mem_map.mp this
        exact ⟨p, hp, e.symm⟩
      refine ⟨a, L, 2, B, rfl, upd_same, fun p hp => sqt_upd hn (hk p (hL p hp)), by omega, fun p hp => ?_, fun L' p hP hnd hlt hpw hnone => ?_⟩
      · obtain ⟨x, hx, e⟩ := inps p (hL p hp)
        rw [e]
        exact ⟨rfl, bd x hx⟩
      have hL' : ∀ x ∈ L', x ∈ ks := fun x hx => hL x (hP.mem_iff.mp hx)
      obtain ⟨rs, ers, hrs⟩ := pairs_of (ps := ps) (ls := L'.map (·.2)) fun l hl => by
        obtain ⟨x, hx, rfl⟩ := List.mem_map.mp hl
        exact inps x (hL' x hx)
      have rnd : rs.Nodup := by
        rw [ers] at hnd
        exact (List.pairwise_map.mp hnd).imp fun {x y} h e => h (by rw [e])
      have rmem : ∀ x, x ∈ rs ↔ x ∈ nubP ps := fun x => by
        rw [mem_nubP]
        refine ⟨hrs x, fun hx => ?_⟩
        have h1 : tI x ∈ ks.map (·.2) := by rw [ek]; exact List.mem_map.mpr ⟨x, hx, rfl⟩
        obtain ⟨y, hy, ey⟩ := List.mem_map.mp h1
        have h2 := hall y hy
        rw [ey] at h2
        obtain ⟨z, hz, ez⟩ := List.mem_map.mp h2
        have h3 : tI x ∈ L'.map (·.2) := List.mem_map.mpr ⟨z, hP.mem_iff.mpr hz, ez⟩
        rw [ers] at h3
        obtain ⟨u, hu, eu⟩ := List.mem_map.mp h3
        rw [← tI_inj eu]; exact hu
      have rpw : rs.Pairwise fun p q => leP p q = true := by
        have h1 : (L'.map (·.2)).Pairwise fun x y => TS.code B x ≤ TS.code B y := List.pairwise_map.mpr hpw
        rw [ers, List.pairwise_map] at h1
        exact h1.imp_of_mem fun {x y} hx hy h => leP_code (bd x (hrs x hx)) (bd y (hrs y hy)) h
      have er : rs = sortP (nubP ps) := sortedP_uniq (((List.perm_ext_iff_of_nodup rnd nubP_nodup).mpr rmem).trans (sortP_perm _).symm) rpw (sortP_sorted _)
      -- the values
      have rep1 : ∀ x ∈ ks, ∀ p, x.2 = tI p → p ∈ ps → Rep X.K F H (pairV p) (.ref x.1) := fun x hx p hp hps => by
        obtain ⟨i, hi, ei⟩ := List.getElem_of_mem hx
        have e1 : (ks.map (·.2))[i]? = some (tI p) := by rw [List.getElem?_map, List.getElem?_eq_getElem hi, ei, ← hp]; rfl
        rw [ek, List.getElem?_map] at e1
        simp only [Option.map_eq_some_iff] at e1
        obtain ⟨p', e2, e3⟩ := e1
        have := tI_inj e3
        subst this
        obtain ⟨v, hv, rp⟩ := lr.get (i := i) (d := pairV p') (by rw [List.getElem?_map, e2]; rfl)
        rw [List.getElem?_map, List.getElem?_eq_getElem hi, ei] at hv
        cases hv
        exact rp
      have repl : ∀ (L' : List (Addr × List Int)) (rs : List (Int × Int)), L'.map (·.2) = rs.map tI → (∀ x ∈ L', x ∈ ks) → (∀ r ∈ rs, r ∈ ps) → RepL X.K F H (rs.map pairV) (L'.map fun q => V.ref q.1) := by
        intro L'
        induction L' with
        | nil => intro rs e _ _; cases rs with
          | nil => exact .nil
          | cons _ _ => cases e
        | cons x L' ih =>
          intro rs e h1 h2
          cases rs with
          | nil => cases e
          | cons r rs =>
            simp only [List.map_cons, List.cons.injEq] at e
            exact .cons (rep1 x (h1 x List.mem_cons_self) r e.1 (h2 r List.mem_cons_self)) (ih rs e.2 (fun y hy => h1 y (List.mem_cons_of_mem _ hy)) fun y hy => h2 y (List.mem_cons_of_mem _ hy))
      have rl := repl L' rs ers hL' hrs
      have hd2 : ∀ b, F b → upd H a (SetTO X.prog X.w a L) b ≠ none := fun b f => by
        rw [upd_ne fun z => hd b f (by rw [z]; exact hn)]
        exact hd b f
      obtain ⟨al, ow⟩ := alloc_list hnone hd2 (rl.mono (grow_new hn _ hd))
      rw [er] at ow
      refine q _ _ F [p] ⟨fun b o e nb => al.same b o (by rw [upd_ne fun z => by rw [z, hn] at e; cases e]; exact e) nb, al.grow, fun b f => .inl f, fun b hb => ?_, al.nd, al.dom, fun b vs e => al.tups b vs (by rw [upd_ne fun z => by rw [z, hn] at e; cases e]; exact e)⟩ ow
      have eb : b = p := by simpa using hb
      subst eb
      refine ⟨.inl ?_, (al.own b hb).2⟩
      by_cases z : b = a
      · rw [z]; exact hn
      · rw [upd_ne z] at hnone; exact hnone
theorem de_sortset {E : Exs} {a : Expr} {p p2 pos q : Pos} {f : Env' → Res (List (D × Nat) × Env')} (hc : X.calm = true) (hu : X.A.units + 64 < cLine) (hm : X.mg "sorted" = none) (hm2 : X.mg "set" = none) (ha : DC X E [a] f) (hg : Gl X "sorted" := by rfl) (hg2 : Gl X "set" := by rfl)
    (he : starEach [a] X.env = (false, eval a X.env) :: starEach [] X.env := by rfl) (he2 : starEach [.Call (.Name "set" p2) [a] [] q] X.env = (false, eval (.Call (.Name "set" p2) [a] [] q) X.env) :: starEach [] X.env := by rfl) :
    DE X E (.Call (.Name "sorted" p) [.Call (.Name "set" p2) [a] [] q] [] pos) fun ρ => f ρ >>= fun s => liftO (sortSetD s.1) >>= fun d => .ok (d.1, d.2, s.2) := by
  obtain ⟨t, pa, qa⟩ := ha
  refine ⟨_, pe_callB (cr_sortedT hc) hg hm rfl (pa_cons (pe_callTy (cr_setOfT hc hu) hg2 hm2 rfl pa (by decide) (by decide) he rfl) pa_nil he2) (by decide) (by decide) he2 rfl, fun ρ F P σ H Q hl rr hh => ?_⟩
  exact calld_end (r := fun vs H Q => rSetOfT X.K X.prog X.w vs H fun v H2 => rSortedT X.K X.prog X.w [v] H2 Q) (fun F H vs ds c Q hd oc e q => sortset_core hc hd oc e q) qa hl rr hh
end
end DL

namespace DL
open PySem PySem.Spec PyProof.Rows L2
/-! ### sorted(d) of a dict whose keys are pairs of ints -/
def kPr (p : Int × Int) : List Key := [.inl p.1, .inl p.2]
def rSortedDT : List V → Hp → VK → Prop := fun vs H Q => ∃ (d : Addr) (kvs : List (List Key × V)) (ps : List (Int × Int)), vs = [V.ref d] ∧ Rd H d (.dT kvs) ∧ kvs.map (·.1) = ps.map kPr ∧
  ∀ (L : List (Addr × (Int × Int))) (p : Addr), L.map (·.2) = sortP ps → (∀ x ∈ L, H x.1 = some (.tup [.int x.2.1, .int x.2.2])) → H p = none → Q (.ref p) (upd H p (.lst (L.map fun x => V.ref x.1)))
def backA : Value → Addr
  | .ref a => a
  | _ => 0
theorem paired_get {α β : Type} {R : α → β → Prop} : ∀ {xs : List α} {ys : List β} {i : Nat} {x : α} {y : β}, Paired R xs ys → xs[i]? = some x → ys[i]? = some y → R x y
  | _, _, _, _, _, .nil, h, _ => by cases h
  | _, _, 0, _, _, .cons r _, h, k => by cases h; cases k; exact r
  | _, _, i + 1, _, _, .cons _ t, h, k => paired_get t (by simpa using h) (by simpa using k)
section
variable {X : Cx}
theorem cr_sortedDT (hcalm : X.calm = true) : CallR X (.builtin "sorted") rSortedDT := by
  intro pins s σ H xs us Q I r q
  obtain ⟨d, kvs, ps, rfl, hd, hks, q⟩ := q
  obtain ⟨u, rfl, rx⟩ := r.one
  cases rx
  obtain ⟨z, hs, ks, pr, o, es, ep, ho, hx, hdt, he, hn⟩ := (show ObjOk X.prog X.w H s.heap d (.dT kvs) from hd.ok I.hok)
  have l1 : es.size = ks.length := size_of_entries he
  have l2 : kvs.length = ks.length := Paired.length pr
  refine Calls.call_function_entry PyProof.Rows.kind_sorted PyProof.Rows.plain_sorted PyProof.Rows.entry_sorted (PyProof.Rows.args_sorted1 _) ?_
  unfold Builtin.«sorted»
  refine wpAny_bind (m := checkCount "sorted" 1 1 _) (wpAny_pure ?_)
  refine wpAny_bind (PySem.W.kdu_collect (A := X.A.in1) (kdl_raw hs hx hdt) (I.ok.hd hcalm) ho (by omega) fun h' tk acc hk it => ?_)
  have ea : acc.toList = ks.map fun x => Value.ref x.2.1 := by
    have hl : acc.toList.length = ks.length := by rw [Array.length_toList, it.1]; exact l1
    apply List.ext_getElem?
    intro j
    rw [List.getElem?_map]
    cases hj : acc.toList[j]? with
    | none =>
      have h1 := List.getElem?_eq_none_iff.mp hj
      rw [List.getElem?_eq_none (by omega)]
      all_goals rfl
    | some v =>
      obtain ⟨en, hen, hv⟩ := it.2 j v (by rw [← Array.getElem?_toList]; exact hj)
      have qe := entry_at he j
      rw [hen] at qe
      cases hb : ks[j]? with
      | none =>
        rw [hb] at qe
        exact nomatch (show some en = none from qe)
      | some b =>
        rw [hb] at qe
        have e2 : en = entryOfKey (tupleKind (mixKind X.prog X.w)) b := Option.some.inj qe
        rw [hv, e2]
        all_goals rfl
  -- each key: where it stands, what it is
  have keyAt : ∀ (i : Nat) (x : List Key × Addr × Value), ks[i]? = some x → ∃ p, ps[i]? = some p ∧ H x.2.1 = some (.tup [.int p.1, .int p.2]) := fun i x hxi => by
    have hi : i < kvs.length := by rw [l2]; exact (List.getElem?_eq_some_iff.mp hxi).1
    obtain ⟨e1, e2, _⟩ := paired_get pr (List.getElem?_eq_getElem hi) hxi
    have e3 : (kvs.map (·.1))[i]? = some (kvs[i]).1 := by rw [List.getElem?_map, List.getElem?_eq_getElem hi]; rfl
    rw [hks, List.getElem?_map] at e3
    simp only [Option.map_eq_some_iff] at e3
    obtain ⟨p, e4, e5⟩ := e3
    refine ⟨p, e4, ?_⟩
    rw [← e5] at e2
    exact e2
  have I1 : Inv X pins σ H { s with heap := h', toks := tk } := I.kept hk
  have pairAt : ∀ (b : Addr) (p : Int × Int), H b = some (.tup [.int p.1, .int p.2]) → Srt.IsPair h' (.ref b) p.1 p.2 := fun b p e => by
    obtain ⟨its2, r2, ⟨o2, ho2, hc2, n2, hd2⟩, _⟩ := I1.tuple (xs := [V.int p.1, V.int p.2]) (Or.inl (Or.inl e))
    obtain ⟨u1, u2, rfl, ri, rj⟩ := vals2 r2
    obtain ⟨t1, rfl⟩ := ri
    obtain ⟨t2, rfl⟩ := rj
    exact ⟨b, o2, t1, t2, n2, rfl, ho2, hc2, hd2⟩
  have hlen : ps.length = ks.length := by
    have := congrArg List.length hks
    simp only [List.length_map] at this
    omega
  have hal : acc.toList.length = ks.length := by rw [ea, List.length_map]
  have each : ∀ v ∈ acc.toList, ∃ (b : Addr) (p : Int × Int), v = .ref b ∧ H b = some (.tup [.int p.1, .int p.2]) ∧ Srt.IsPair h' v p.1 p.2 := fun v hv => by
    rw [ea] at hv
    obtain ⟨x, hx', rfl⟩ := List.mem_map.mp hv
    obtain ⟨i, hi, e⟩ := List.getElem_of_mem hx'
    obtain ⟨p, _, e2⟩ := keyAt i x (by rw [List.getElem?_eq_getElem hi, e])
    exact ⟨x.2.1, p, rfl, e2, pairAt _ _ e2⟩
  have isk : ∀ v ∈ acc.toList, Srt.IsPair h' v (keyOfH h' v).1 (keyOfH h' v).2 := fun v hv => by
    obtain ⟨b, p, _, _, z⟩ := each v hv
    rw [keyOfH_eq z]
    exact z
  refine wpAny_bind (wpAny_newList ?_ (by rw [hal]; omega))
  have hoL : (h'.push (seqObj "list" acc.toList.toArray 0)).get? h'.objs.size = some (seqObj "list" acc.toList.toArray 0) := Heap.get?_push_size _ rfl
  show wpAny _ _ _ _ _ { s with heap := h'.push (seqObj "list" acc.toList.toArray 0), toks := tk }
  refine wpAny_bind (wpAny_holding (wpAny_call_entry PyProof.Rows.slot_list_sort ⟨_, hoL, rfl⟩ PyProof.Rows.entry_list_sort
    (SrtO.list_sort_ord (s := { s with heap := h'.push (seqObj "list" acc.toList.toArray 0), toks := tk }) (SrtO.swo_lex (keyOfH h')) hoL (by rw [hal]; omega) (fun h2 => SrtO.pairs_sortableO (k := keyOfH h') (by omega) (fun v hm => (isk v hm).keeps fun b o e _ => Heap.get?_push_of_some _ e) fun o2 e => ?_) fun out h1 h2 => ⟨_, rfl, ?_⟩) (PyProof.Rows.args_list_sort _)))
  · have e' : some o2 = some (seqObj "list" acc.toList.toArray 0) := e.symm.trans hoL
    cases e'
    intro c
    exact absurd (Value.type.inj c) (by decide)
  · have hperm := h2.perm
    have mo : ∀ v ∈ out, v ∈ acc.toList := fun v hv => hperm.mem_iff.mp hv
    obtain ⟨e', he'⟩ := PyProof.Rows.sortedHeap_at (vs := acc.toList) (out := out.toArray) hoL
    let L : List (Addr × (Int × Int)) := out.map fun v => (backA v, keyOfH h' v)
    have hL1 : L.map (·.2) = sortP ps := by
      have ek : acc.toList.map (keyOfH h') = ps := by
        apply List.ext_getElem?
        intro i
        rw [ea, List.map_map, List.getElem?_map]
        cases hb : ks[i]? with
        | none =>
          have := List.getElem?_eq_none_iff.mp hb
          rw [List.getElem?_eq_none (by omega)]
          rfl
        | some x =>
          obtain ⟨p, e1, e2⟩ := keyAt i x hb
          rw [e1]
          show some (keyOfH h' (.ref x.2.1)) = some p
          rw [keyOfH_eq (pairAt _ _ e2)]
      show (out.map fun v => (backA v, keyOfH h' v)).map (·.2) = _
      rw [List.map_map]
      refine sortedP_uniq ((hperm.map (keyOfH h')).trans (ek ▸ (sortP_perm ps).symm)) ?_ (sortP_sorted ps)
      refine List.pairwise_map.mpr (h1.imp fun {x y} z => ?_)
      show (!SrtO.lexB (keyOfH h' y) (keyOfH h' x)) = true
      rw [show SrtO.lexB (keyOfH h' y) (keyOfH h' x) = false from z]
      rfl
    have hL2 : ∀ x ∈ L, H x.1 = some (.tup [.int x.2.1, .int x.2.2]) := fun x hx' => by
      obtain ⟨v, hv, rfl⟩ := List.mem_map.mp hx'
      obtain ⟨b, p, rfl, e2, z⟩ := each v (mo v hv)
      show H b = _
      rw [keyOfH_eq z]
      exact e2
    have hout : out = (out.map backA).map Value.ref := by
      rw [List.map_map]
      refine (List.map_id' out).symm.trans (List.map_congr_left fun v hv => ?_)
      obtain ⟨b, p, rfl, _, _⟩ := each v (mo v hv)
      rfl
    have rv : Vals ((out.map backA).map V.ref) out := by
      have := vals_refs (out.map backA)
      rw [← hout] at this
      exact this
    have eL : (L.map fun x => V.ref x.1) = (out.map backA).map V.ref := by
      show ((out.map fun v => (backA v, keyOfH h' v)).map fun x => V.ref x.1) = _
      rw [List.map_map, List.map_map]
      rfl
    have hz : ((out.map backA).map V.ref).length ≤ sizeLine := by rw [List.length_map, List.length_map, hperm.length_eq, hal]; omega
    have hq := q L h'.objs.size hL1 hL2 (I1.hok.fresh (Nat.le_refl _))
    rw [eL] at hq
    refine wpAny_pure ⟨_, rfl, .ref h'.objs.size, upd H h'.objs.size (.lst ((out.map backA).map V.ref)), I1.laid (t' := tk) (fun b u e => ?_) (Nat.le_refl _)
      (show ObjOk X.prog X.w _ _ _ (.lst ((out.map backA).map V.ref)) from ⟨hz, out, e', rv, he'⟩), rfl, hq⟩
    have hb : b < h'.objs.size := Heap.lt_size e
    rw [PyProof.Rows.sortedHeap_old (Nat.ne_of_lt hb) (by rw [size_push']; exact Nat.lt_succ_of_lt hb)]
    exact Heap.get?_push_of_some _ e
end
theorem own_dT {K : PySem.W.Frag} {F : AS} {H : Hp} {d : D} {es : TD} (h : tOf d = some es) {v : V} {A : List Addr} : ∀ {n : Nat}, Own K F H n d v A → ∃ a ks, v = .ref a ∧ Rd H a (.dT ks) ∧ PT' K F H es ks := by
  cases d <;> try (simp only [tOf] at h; cases h)
  rename_i kvs
  have dk : ∀ {x : List (D × D)} {y : List (Key × V)}, RepK K F H x y → decT x = none := fun {x y} r => by
    cases r with
    | nil => rfl
    | @cons k d v ds vs h t => cases k <;> rfl
  have dt : ∀ {ks : List (List Key × V)}, RepT K F H kvs ks → PT' K F H es ks := fun {ks} r => by
    obtain ⟨es', e, p⟩ := r.dec
    simp only [tOf, e, decT_enc] at h
    cases h
    exact p
  intro n o
  cases n with
  | zero =>
    obtain ⟨_, r⟩ := o
    cases r with
    | dK f rd rk => simp only [tOf] at h; rw [dk rk] at h; cases h
    | dT f rd rt => exact ⟨_, _, rfl, rd, dt rt⟩
  | succ n =>
    rcases o with ⟨_, z, _⟩ | ⟨ds, a, vs, B, z, _⟩ | ⟨kvs', a, ks, h1, h2, h3, h4, h5⟩ | ⟨kvs', a, ks, h1, h2, h3, h4, h5⟩
    · cases z
    · cases z
    · cases h1; simp only [tOf] at h; rw [dk h5] at h; cases h
    · cases h1; exact ⟨a, ks, h2, .inl h3, dt h5⟩
def pairK : List Key → Option (Int × Int)
  | [.inl i, .inl j] => some (i, j)
  | _ => none
def pairsK : List (List Key) → Option (List (Int × Int))
  | [] => some []
  | k :: ks => (pairK k).bind fun p => (pairsK ks).map fun ps => p :: ps
theorem pairsK_some : ∀ {ks : List (List Key)} {ps : List (Int × Int)}, pairsK ks = some ps → ks = ps.map kPr
  | [], ps, h => by cases h; rfl
  | k :: ks, ps, h => by
    rw [pairsK] at h
    cases e : pairK k with
    | none => rw [e] at h; cases h
    | some p =>
      rw [e, Option.bind_some] at h
      cases e2 : pairsK ks with
      | none => rw [e2] at h; cases h
      | some l =>
        rw [e2] at h
        cases h
        rw [List.map_cons, ← pairsK_some e2]
        congr 1
        unfold pairK at e
        split at e
        · cases e; rfl
        · cases e
theorem pairsK_map : ∀ ps : List (Int × Int), pairsK (ps.map kPr) = some ps
  | [] => rfl
  | p :: ps => by rw [List.map_cons, pairsK, pairsK_map ps]; rfl
def sortedTD : List (D × Nat) → Option (D × Nat)
  | [(d, _)] => (tOf d).bind fun es => (pairsK (es.map (·.1))).map fun ps => (.list ((sortP ps).map pairV), 1)
  | _ => none
theorem repl_keys {K : PySem.W.Frag} {F : AS} {H : Hp} : ∀ {L : List (Addr × (Int × Int))}, (∀ x ∈ L, H x.1 = some (.tup [.int x.2.1, .int x.2.2])) → RepL K F H ((L.map (·.2)).map pairV) (L.map fun x => V.ref x.1)
  | [], _ => .nil
  | x :: L, h => .cons (.tup (h x List.mem_cons_self) (.cons (.int _) (.cons (.int _) .nil))) (repl_keys fun y hy => h y (List.mem_cons_of_mem _ hy))
theorem pt_keys {K : PySem.W.Frag} {F : AS} {H : Hp} : ∀ {es : TD} {ks : List (List Key × V)}, PT' K F H es ks → ks.map (·.1) = es.map (·.1)
  | _, _, .nil => rfl
  | _, _, .cons h t => by rw [List.map_cons, List.map_cons, h.1, pt_keys t]
section
variable {X : Cx}
theorem cd_sortedTD (hc : X.calm = true) : CallD X (.builtin "sorted") sortedTD := by
  refine ⟨_, cr_sortedDT hc, fun F H vs ds c Q hd oc e q => ?_⟩
  match ds, e with
  | [(d, n)], e =>
    simp only [sortedTD] at e
    cases ht : tOf d with
    | none => rw [ht] at e; cases e
    | some es =>
      rw [ht, Option.bind_some] at e
      cases hp : pairsK (es.map (·.1)) with
      | none => rw [hp] at e; cases e
      | some ps =>
        rw [hp] at e
        cases e
        obtain ⟨v, A, rfl, o⟩ := owns1 oc
        obtain ⟨a, ks, rfl, rd, pt⟩ := own_dT ht o
        have ek : ks.map (·.1) = ps.map kPr := by
          rw [← pairsK_some hp]
          exact pt_keys pt
        refine ⟨a, ks, ps, rfl, rd, ek, fun L p h1 h2 hn => ?_⟩
        have rl : RepL X.K F H ((sortP ps).map pairV) (L.map fun x => V.ref x.1) := by
          rw [← h1]
          exact repl_keys h2
        obtain ⟨al, ow⟩ := alloc_list hn hd rl
        exact q _ _ _ _ al ow
end
end DL

namespace DL
open PySem PySem.Spec PyProof.Rows L2
/-! ### name += list: put behind, in place -/
def extD (x y : Option (D × Nat)) : Option (D × Nat) := match x, y with
  | some (.list xs, 1), some (.list ys, 1) => if xs.length + ys.length ≤ line then some (.list (xs ++ ys), 1) else none
  | _, _ => none
def augLF (i : Nat) (f : Env' → Res (D × Nat × Env')) : Env' → Res (Fl × Env') := fun ρ => if isOwnL (getS ρ i) = true then f ρ >>= fun y => liftO (extD (getS y.2.2 i) (some (y.1, y.2.1))) >>= fun x => .ok (.nx, y.2.2.set i (some x)) else .stuck
theorem extD_some {x y : Option (D × Nat)} {z : D × Nat} (h : extD x y = some z) : ∃ xs ys, x = some (.list xs, 1) ∧ y = some (.list ys, 1) ∧ xs.length + ys.length ≤ line ∧ z = (.list (xs ++ ys), 1) := by
  unfold extD at h
  split at h
  · split at h
    · cases h; exact ⟨_, _, rfl, rfl, by assumption, rfl⟩
    · cases h
  · cases h
theorem RepL.app {K : PySem.W.Frag} {F : AS} {H : Hp} : ∀ {ds es : List D} {vs us : List V}, RepL K F H ds vs → RepL K F H es us → RepL K F H (ds ++ es) (vs ++ us)
  | _, _, _, _, .nil, l => l
  | _, _, _, _, .cons r t, l => .cons r (RepL.app t l)
theorem set_same {σ : L2.St} {i : Nat} {x : Option V} (h : σ[i]? = some x) : σ.set i x = σ := by
  apply List.ext_getElem?
  intro j
  by_cases e : i = j
  · subst e
    rw [List.getElem?_set_self (List.getElem?_eq_some_iff.mp h).1, h]
  · rw [List.getElem?_set_ne e]
section
variable {X : Cx} {E : Exs} {W : Nat → Bool} {e : Expr} {pos : Pos}
theorem ds_augL (i : Nat) {x : Str} {p : Pos} {f : Env' → Res (D × Nat × Env')} (hN : X.N.Nodup) (he : DE X E e f) (hi : X.N[i]? = some x := by rfl) (hx : Loc X.env.scope x := by first | exact Or.inl rfl | exact Or.inr rfl)
    (hf : X.fn x = true ∨ X.env.scope.names.lookup x = some .local := by first | exact .inl rfl | exact .inr rfl | assumption) (hW : W i = true := by decide) : DS X E W (.AugAssign (.Name x p) .Add e pos) (augLF i f) := by
  obtain ⟨te, pe, qe⟩ := he
  refine ⟨_, ps_aug hN hi hx pe (show PIp X .Add rExt2 from iop_ext) hf, fun ρ F P σ H Dn hl r h => ?_⟩
  unfold augLF at h
  by_cases hg0 : isOwnL (getS ρ i) = true
  case neg => rw [if_neg hg0] at h; exact h.elim
  rw [if_pos hg0] at h
  obtain ⟨ds0, m0, hg⟩ := isOwnL_of hg0
  obtain ⟨v, B, e1, o, _⟩ := r.slot (getS_some hg)
  obtain ⟨a, vs0, B0, rfl, hH0, _, _⟩ := own1_list o
  refine ⟨_, e1, qe ρ F P σ H _ hl r (PostS.of h |>.same fun y hy u H1 F1 A st r1 o1 => ?_)⟩
  cases hx1 : extD (getS y.2.2 i) (some (y.1, y.2.1)) with
  | none => rw [hx1] at hy; exact hy.elim
  | some z =>
  rw [hx1] at hy
  obtain ⟨xs, ys, g1, g2, g3, rfl⟩ := extD_some hx1
  have l1 := rel_len r hl r1
  obtain ⟨dy, ny, ρ1⟩ := y
  cases g2
  obtain ⟨v', C, e2, o2, _⟩ := r1.slot (getS_some g1)
  rw [e1] at e2
  cases e2
  obtain ⟨a', vs, ea, hH, lv⟩ := own1_rep o2
  cases ea
  obtain ⟨b, zs, eb, hB, lz⟩ := own1_rep o1
  subst eb
  obtain ⟨F2, st2, r2, gr⟩ := slot_write (us := vs ++ zs) (es := xs ++ ys) r1 o1 (getS_some g1) e1 hH (fun F' H' g _ l => RepL.app l (lz.mono g))
  refine ⟨a, b, vs, zs, rfl, rfl, hH, hB, by rw [lv.length, lz.length, line_eq]; exact g3, ?_⟩
  dsimp only
  rw [set_same e1]
  simp only [liftO_some, bind_ok] at hy
  exact hy σ _ F2 SK.refl (st.trans st2) r2 (by rw [List.length_set]; exact l1)
end
end DL

namespace DL
open PySem PySem.Spec PyProof.Rows L2
/-! ### f(.., name): what stands at the name is lent alone, and owned again behind the call; the answer holds no object -/
def leafD : D → Bool
  | .none => true
  | .bool _ => true
  | .int _ => true
  | .str _ => true
  | _ => false
theorem leaf_rep {K : PySem.W.Frag} {F F' : AS} {H H' : Hp} {d : D} {v : V} (h : leafD d = true) (r : Rep K F H d v) : Rep K F' H' d v := by
  cases r <;> first | (cases h; done) | skip
  · exact .non
  · exact .bl _
  · exact .int _
  · exact .str _
theorem leaf_still {d : D} (h : leafD d = true) : still d = true := by cases d <;> first | rfl | (cases h; done)
structure DAB (X : Cx) (E : Exs) (es : List Expr) (i : Nat) (f : Env' → Res (List D × Env')) : Prop where
  ex : ∃ t, PA X es t ∧ ∀ (ρ : Env') (F P : AS) (σ : L2.St) (H : Hp) (Q : List V → Hp → Prop), ρ.length = X.N.length → Rel X.K F P ρ σ H →
    Post X E F P σ H (f ρ) (fun r => ∀ vs H' F' v, Step F P H F' H' → Rel X.K F' P r.2 σ H' → RepL X.K F' H' r.1 vs → σ[i]? = some (some v) → Q (vs ++ [v]) H') → t σ H Q
def lentF (i : Nat) : Env' → Res (List D × Env') := fun ρ => liftO (getS ρ i) >>= fun _ => .ok ([], ρ)
section
variable {X : Cx} {E : Exs} {e a : Expr} {es : List Expr} {pos p : Pos} {x : Str}
theorem dab_var (i : Nat) {y : Str} {py : Pos} (hN : X.N[i]? = some y := by rfl) (hv : Vis X.env.scope y := by first | exact Or.inl rfl | exact Or.inr (Or.inl rfl) | exact Or.inr (Or.inr rfl)) (hd : (y == ("__debug__" : Str)) = false := by decide) (hcd : (y == ("__classdict__" : Str)) = false := by decide)
    (hs : starEach [.Name y py] X.env = (false, eval (.Name y py) X.env) :: starEach [] X.env := by rfl) : DAB X E [.Name y py] i (lentF i) := by
  refine ⟨_, pa_cons (pe_var hN hv hd hcd) pa_nil hs, fun ρ F P σ H Q hl r h => ?_⟩
  unfold lentF at h
  cases hg : getS ρ i with
  | none => rw [hg] at h; exact h.elim
  | some y0 =>
    rw [hg] at h
    simp only [liftO_some, bind_ok] at h
    obtain ⟨v, _, e1, _⟩ := r.slot (getS_some hg)
    exact ⟨v, e1, h [] H F v Step.refl r .nil e1⟩
theorem dab_cons {i : Nat} {f : Env' → Res (D × Nat × Env')} {g : Env' → Res (List D × Env')} (ha : DE X E a f) (hb : DAB X E es i g) (hs : starEach (a :: es) X.env = (false, eval a X.env) :: starEach es X.env := by rfl) :
    DAB X E (a :: es) i fun ρ => f ρ >>= fun x => g x.2.2 >>= fun y => .ok (x.1 :: y.1, y.2) := by
  obtain ⟨ta, pa, qa⟩ := ha
  obtain ⟨tb, pb, qb⟩ := hb
  refine ⟨_, pa_cons pa pb hs, fun ρ F P σ H Q hl r h => ?_⟩
  refine qa ρ F P σ H _ hl r (h.bind.same fun x hx v H1 F1 A st1 r1 o1 => ?_)
  obtain ⟨st2, r2⟩ := r1.freeze o1.there
  refine qb x.2.2 _ P σ H1 _ (rel_len r hl r1) r2 ?_
  refine (hx.bind.imp (st1.trans st2) (fun a z => z) fun y hy vs H3 F3 u st3 r3 l e3 => ?_)
  exact hy (v :: vs) H3 F3 u ((st1.trans st2).trans st3) r3 (.cons ((o1.rep (F' := fun a => F1 a ∨ a ∈ A) (fun a h => .inl h) fun a h => .inr h).mono st3.grow) l) e3
theorem n_dabC {i : Nat} {f : EF} {g : AF} (ha : DE X E a f) (hb : DAB X E es i g) (hs : starEach (a :: es) X.env = (false, eval a X.env) :: starEach es X.env := by rfl) : DAB X E (a :: es) i (consA f g) := dab_cons ha hb hs
def callB_ (r : Res (D × Nat)) (ρ : Env') : Res (D × Nat × Env') := match r with
  | .ok (d, _) => if leafD d = true then .ok (d, 0, ρ) else .stuck
  | _ => .stuck
def callBE (g : List D → Res (D × Nat)) (n i : Nat) (fa : Env' → Res (List D × Env')) : Env' → Res (D × Nat × Env') := fun ρ => fa ρ >>= fun r => liftO (getS r.2 i) >>= fun x => if r.1.length + 1 = n then callB_ (g (r.1 ++ [x.1])) r.2 else .stuck
variable {CX : CXT} {k : Nat} {f : Addr} {fd : FuncData} {ps : List Str}
theorem de_callB1 {E1 : XK} {n i : Nat} {g : List D → Res (D × Nat)} {fa : Env' → Res (List D × Env')} (G : FnOk X.prog X.w X.K X.mg X.base CX k f fd ps (SpD X.K X.mg n g)) (hr : Room k X.A) (hm : X.mg x = some (.ref f)) (hk : PySem.W.keepIn X.K (.ref f) = true) (hb : Binds X.K fd ps [])
    (hx : Passes CX X E1) (ha : DAB X (fun _ => E1) (e :: es) i fa) (hg : Gl X x := by rfl) (hdb : (x == ("__debug__" : Str)) = false := by decide) (he : starEach (e :: es) X.env = (false, eval e X.env) :: starEach es X.env := by rfl) (hpl : (backTo pos (starEach es X.env)).any (·.1) = false := by rfl) :
    DE X (fun _ => E1) (.Call (.Name x p) (e :: es) [] pos) (callBE g n i fa) := by
  obtain ⟨t, pa, qa⟩ := ha
  refine ⟨_, pe_call G hr hg hm hk hb .nil hx pa hdb he hpl, fun ρ F P σ H Q hl r h => ?_⟩
  refine qa ρ F P σ H _ hl r ?_
  unfold callBE at h
  cases hfa : fa ρ with
  | stuck => rw [hfa] at h; exact h.elim
  | exc y z => rw [hfa] at h; exact h
  | ok q =>
  rw [hfa] at h
  intro vs H1 F1 v st r1 l e1
  simp only [bind_ok] at h
  cases hg1 : getS q.2 i with
  | none => rw [hg1] at h; exact h.elim
  | some x0 =>
  rw [hg1] at h
  simp only [liftO_some, bind_ok] at h
  by_cases hlen : q.1.length + 1 = n
  case neg => rw [if_neg hlen] at h; exact h.elim
  rw [if_pos hlen] at h
  obtain ⟨v', B, e2, o, r2⟩ := r1.take (getS_some hg1)
  rw [e1] at e2
  cases e2
  rw [List.append_nil] at r2
  have hBF : ∀ z ∈ B, ¬ F1 z ∧ ¬ P z := fun z hz => r2.2.2.2.elim fun w q => (q.2.2 z hz).2
  have hdm : ∀ a, F1 a → H1 a ≠ none := fun a z => r1.dom a (.inl z)
  have rep := o.rep (F' := fun x => F1 x ∨ x ∈ B) (fun x z => .inl z) fun x z => .inr z
  have l2 : RepL X.K (fun x => F1 x ∨ x ∈ B) H1 (q.1 ++ [x0.1]) (vs ++ [v]) := RepL.append (l.mono ⟨fun a z => ⟨.inl z, rfl⟩, fun a vs z => z⟩) (.cons rep .nil)
  refine ⟨q.1 ++ [x0.1], (fun x => F1 x ∨ x ∈ B), by rw [List.length_append]; exact hlen, by rw [List.append_nil]; exact l2, fun a z => z.elim (hdm a) (o.there a), ?_⟩
  cases hgv : g (q.1 ++ [x0.1]) with
  | stuck => rw [hgv] at h; exact h.elim
  | exc y z => rw [hgv] at h; exact h.elim
  | ok c =>
    rw [hgv] at h
    obtain ⟨d, m⟩ := c
    unfold callB_ at h
    simp only at h
    by_cases hlf : leafD d = true
    case neg => rw [if_neg hlf] at h; exact h.elim
    rw [if_pos hlf] at h
    intro u H' F' A al o'
    have al2 : Alloc F1 H1 (fun x => F' x ∧ x ∉ B) H' [] := ⟨fun a ob e nb => al.same a ob e nb, fun a z => ⟨al.grow a (.inl z), fun hb => (hBF a hb).1 z⟩, fun a z => (al.fresh a z.1).elim (fun w => w.elim .inl fun w => absurd w z.2) fun w => .inr w, fun a ha => (by cases ha), List.nodup_nil, fun a z => al.dom a z.1, al.tups⟩
    have same : ∀ a ∈ B, H' a = H1 a := fun a ha => by
      cases e : H1 a with
      | none => exact absurd e (o.there a ha)
      | some ob => exact al.same a ob e (by simp)
    have g2 : Grow F1 H1 (fun x => F' x ∧ x ∉ B) H' := al2.growF r1
    have r3 : RelX X.K (fun x => F' x ∧ x ∉ B) P (q.2.set i none) σ H' B := by
      obtain ⟨hl', hd', hn', w, h1, h2, h3⟩ := r2
      refine ⟨hl', fun a z => z.elim (fun z => al2.dom a z) fun z => ?_, hn', w, fun j d n e => ?_, fun a j e => ?_, fun a ha => ?_⟩
      · cases e : H1 a with
        | none => exact absurd e (hd' a (.inr z))
        | some ob => rw [al.same a ob e (by simp)]; exact fun z => by cases z
      · obtain ⟨v0, C, e1, o1, nd, hw⟩ := h1 j d n e
        refine ⟨v0, C, e1, o1.mono g2 fun a ha => ?_, nd, hw⟩
        cases e : H1 a with
        | none => exact absurd e (o1.there a ha)
        | some ob => exact al.same a ob e (by simp)
      · obtain ⟨q1, q2, q3⟩ := h2 a j e
        refine ⟨fun z => ?_, q2, ?_⟩
        · rcases al.fresh a z.1 with (w | w) | (w | w)
          · exact q1 w
          · exact z.2 w
          · exact q3 w
          · cases w
        · cases e : H1 a with
          | none => exact absurd e q3
          | some ob => rw [al.same a ob e (by simp)]; exact fun z => by cases z
      · obtain ⟨q1, q2, q3⟩ := h3 a ha
        exact ⟨q1, fun z => z.2 ha, q3⟩
    have r4 := RelX.put' (A := B) (B := []) (i := i) (d := x0.1) (n := x0.2) (by rw [List.append_nil]; exact r3) (by exact e1) (o.mono g2 same)
    rw [List.set_set] at r4
    have eρ : q.2.set i (some (x0.1, x0.2)) = q.2 := by
      have := getS_some hg1
      apply List.ext_getElem?
      intro j
      by_cases ej : i = j
      · subst ej
        rw [List.getElem?_set_self (List.getElem?_eq_some_iff.mp this).1, this]
      · rw [List.getElem?_set_ne ej]
    rw [eρ] at r4
    obtain ⟨_, ro⟩ := own_still o' (leaf_still hlf)
    exact h u H' _ [] (st.trans (al2.step r1)) r4 ⟨rfl, leaf_rep hlf ro⟩
end
/-! ### list * int -/
theorem rep_flat {K : PySem.W.Frag} {F : AS} {H : Hp} {ds : List D} {vs : List V} (l : RepL K F H ds vs) : ∀ n : Nat, RepL K F H (List.replicate n ds).flatten (List.replicate n vs).flatten
  | 0 => .nil
  | n + 1 => by
    rw [List.replicate_succ, List.replicate_succ, List.flatten_cons, List.flatten_cons]
    exact RepL.append l (rep_flat l n)
def repL (a b : D × Nat) : Option (D × Nat) := match a, b with
  | (.list ds, n), (.int k, _) => if n = 1 ∧ (-(2 ^ 30) ≤ k ∧ k < 2 ^ 30) ∧ ds.length * k.toNat ≤ line then some (.list (List.replicate k.toNat ds).flatten, 1) else none
  | _, _ => none
section
variable {X : Cx}
theorem opd_repL : OpD X (binaryOp .Mult) repL := by
  refine ⟨_, op_rep, fun F H x y a b c A B Q hd o1 o2 e q => ?_⟩
  obtain ⟨da, n⟩ := a
  obtain ⟨db, m⟩ := b
  cases da <;> try (simp only [repL] at e; cases e)
  cases db <;> try (simp only [repL] at e; cases e)
  rename_i ds k
  simp only [repL] at e
  split at e
  case isFalse => cases e
  rename_i z
  cases e
  obtain ⟨rfl, ⟨z1, z2⟩, z3⟩ := z
  obtain ⟨l, vs, rfl, hH, lr⟩ := own1_rep o1
  refine ⟨l, k, vs, rfl, own_int o2, hH, by omega, by omega, by rw [lr.length, line_eq]; exact z3, fun p hp => ?_⟩
  obtain ⟨al, ow⟩ := alloc_list hp hd (rep_flat lr k.toNat)
  exact q _ _ _ _ al ow
def mulD2 (a b : D × Nat) : Option (D × Nat) := (mulD a b).or (repL a b)
theorem opd_mul2 : OpD X (binaryOp .Mult) mulD2 := opd_mul.or opd_repL
end
end DL

namespace DL
open PySem PySem.Spec PyProof.Rows L2
/-! ### sum of a tuple of ints -/
theorem sum_tup_raw {prog : Program} {w : World} {A : Around} {E : Value → Shared → Prop} {s : Shared} {l : Addr} {its : List Value} {ns : List Int} {Q : Value → Shared → Prop} (hh : A.handled = none) (hl : IsTup s.heap l its.toArray) (hi : IntsAre its ns)
    (h : ∀ h' tk t', (∀ b o, s.heap.get? b = some o → h'.get? b = some o) → Q (.int ns.sum t') { s with heap := h', toks := tk }) : wpAny (model prog w) A (call (.builtin "sum") [.ref l]) Q E s := by
  obtain ⟨xs, e⟩ := hi.allInts.items
  have hn : numsOf (intItems xs).toList = ns := by rw [← e]; exact hi.numsOf
  rw [nums_intItems] at hn
  rw [e] at hl
  have hlt : l < s.heap.objs.size := by obtain ⟨_, e, _⟩ := hl; exact Heap.lt_size e
  refine PySem.call_sum_walkG (iter_tuple hl ?_)
  refine ⟨_, _, _, _, _, _, numAt xs, rfl, Walks.tuple (A := A.in1) hh _ l (Nat.ne_of_lt hlt) (intItems xs), ⟨⟨_, Heap.get?_push_size _ rfl, rfl, rfl⟩, ?_⟩, fun b hb => ?_, (fun _ _ => intItems_at), fun h' tk t' hk => ?_⟩
  · exact hl.push _
  · show b < (s.heap.push _).objs.size
    rw [Heap.size_push]
    simp only [List.mem_cons, List.not_mem_nil, or_false] at hb
    rcases hb with rfl | rfl
    · exact Nat.lt_succ_self _
    · exact Nat.lt_succ_of_lt hlt
  · have := h h' tk t' (fun b o e => hk b o (by simpa using Nat.ne_of_lt (Heap.lt_size e)) (Heap.get?_push_of_some _ e))
    rw [← hn] at this
    rw [preSum_eq, List.take_of_length_le (by simp [intItems])]
    exact this
section
variable {X : Cx}
def rSumT (K : PySem.W.Frag) : List V → Hp → VK → Prop := fun vs H Q => ∃ (a : Addr) (ns : List Int), vs = [V.ref a] ∧ SqT K H a (ns.map V.int) ∧ Q (.int ns.sum) H
theorem cr_sumT (hc : X.calm = true) : CallR X (.builtin "sum") (rSumT X.K) := by
  intro pins s σ H vs us Q I r h
  obtain ⟨a, ns, rfl, hs, q⟩ := h
  obtain ⟨its, rv, hl, _⟩ := I.tuple hs
  rw [Vals.ref1 r]
  exact sum_tup_raw (I.ok.hd hc) hl rv.ints fun h' tk t' hk => ⟨.int _, H, I.kept hk, ⟨_, rfl⟩, q⟩
def sumTD : List (D × Nat) → Option D
  | [(.tuple ds, _)] => (intsD ds).map fun ns => .int ns.sum
  | _ => none
theorem cp_sumT (hc : X.calm = true) : CallP X (.builtin "sum") sumTD := by
  refine ⟨_, cr_sumT hc, fun F H vs ds d Q oc e q => ?_⟩
  match ds, e with
  | [(.tuple xs, n)], e =>
    simp only [sumTD] at e
    cases hi : intsD xs with
    | none => rw [hi] at e; cases e
    | some ns =>
      rw [hi] at e
      cases e
      obtain ⟨v, A, rfl, o⟩ := owns1 oc
      obtain ⟨a, us, rfl, r, l⟩ := own_tuple o
      refine ⟨a, ns, rfl, ?_, q _ (.int _)⟩
      rw [(AllOwn.of_rep l).ints hi] at r
      exact r
def sum2D (x : List (D × Nat)) : Option D := (sumD x).or (sumTD x)
theorem cp_sum2 (hc : X.calm = true) : CallP X (.builtin "sum") sum2D := CallP.or (cp_sum hc) (cp_sumT hc)
end
end DL

namespace DL
open PySem PySem.Spec PyProof.Rows L2

/-! ### what lets nothing out, where something may get out -/
def nx {α : Type} (r : Res α) : Res α := match r with
  | .ok a => .ok a
  | _ => .stuck
@[simp] theorem nx_ok {α : Type} (a : α) : nx (.ok a) = .ok a := rfl
def nxS {α : Type} (f : Env' → Res α) : Env' → Res α := fun ρ => nx (f ρ)
section
variable {X : Cx} {E : Exs} {W : Nat → Bool} {F P : AS} {σ : L2.St} {H : Hp} {Dn : Ends}
theorem PostS.to {E' : Exs} {r : Res (Fl × Env')} (h : PostS X E W F P σ H Dn (nx r)) : PostS X E' W F P σ H Dn r := by
  cases r with
  | ok a => obtain ⟨fl, ρ⟩ := a; cases fl <;> exact h
  | exc x ρ => exact h.elim
  | stuck => exact h.elim
theorem Post.to {E' : Exs} {α : Type} {r : Res α} {ok : α → Prop} (h : Post X E F P σ H (nx r) ok) : Post X E' F P σ H r ok := by
  cases r with
  | ok a => exact h
  | exc x ρ => exact h.elim
  | stuck => exact h.elim
theorem PostS.cx {X' : Cx} {r : Res (Fl × Env')} (hK : X'.K = X.K) (hm : X'.mg = X.mg) (hN : X'.N = X.N) (h : PostS X E W F P σ H Dn r) : PostS X' E W F P σ H Dn r := by
  cases r with
  | ok a =>
    obtain ⟨fl, ρ⟩ := a
    cases fl <;> (unfold PostS at h ⊢; simp only [hK, hN] at h ⊢; exact h)
  | exc x ρ => unfold PostS at h ⊢; simp only [hK, hm] at h ⊢; exact h
  | stuck => exact h
theorem dss_nox {ss : List Stmt} {f : SF} (h : DSs X.nox E00 W ss f) : DSs X E W ss (nxS f) := by
  obtain ⟨t, p, q⟩ := h
  exact ⟨t, p.nox, fun ρ F P σ H Dn hl r h => q ρ F P σ H Dn hl r (PostS.cx (X := X) (X' := X.nox) rfl rfl rfl (PostS.to h))⟩
theorem ps_nox {s : Stmt} {t : TS} (h : PS X.nox s t) : PS X s t := ⟨fun pins s σ H D I hw =>
  wpAny_mono (h.run pins s σ H D (I.wish _) hw) (fun f s1 q => q.unwish) fun e s1 z => z.elim⟩
theorem ds_nox {s : Stmt} {f : SF} (h : DS X.nox E00 W s f) : DS X E W s (nxS f) := by
  obtain ⟨t, p, q⟩ := h
  exact ⟨t, ps_nox p, fun ρ F P σ H Dn hl r h => q ρ F P σ H Dn hl r (PostS.cx (X := X) (X' := X.nox) rfl rfl rfl (PostS.to h))⟩
theorem dt_nox {e : Expr} {f : TF} (h : DT X.nox E00 e f) : DT X E e (nxS f) := by
  obtain ⟨t, p, q⟩ := h
  refine ⟨t, p.nox, fun ρ F P σ H Q hl r h => q ρ F P σ H Q hl r ?_⟩
  have h := Post.to (E' := E00) h
  revert h
  cases f ρ <;> exact id

/-! ### raise C('..') -/
def raiseS (c : Str) : SF := fun ρ => .exc (.plain c) ρ
structure ExcC (K : PySem.W.Frag) (mg : Str → Option Value) (x : Str) (C : Addr) : Prop where
  g : mg x = some (.ref C)
  e : PySem.W.excIn K C [.type "ValueError", .type "Exception", .type "BaseException", .type "object"] "ValueError.__new__" = true
  k : PySem.W.keepIn K (.ref C) = true
  s : PySem.W.subIn K (.ref C) (.type "BaseException") = some true
  t : PySem.W.typeIn K (.ref C) = some (.type "type")
theorem ds_raise {x m : Str} {j : Nat} {p p2 pos pos2 : Pos} {C : Addr} (hc : X.calm = true) (tk : Takes X fun cls d σ H => E σ cls d H) (c : ExcC X.K X.mg x C) (hg : Gl X x := by rfl) (hdb : (x == ("__debug__" : Str)) = false := by decide) :
    DS X E W (.Raise (some (.Call (.Name x p) [.Constant (.str m) j p2] [] pos)) none pos2) (raiseS x) :=
  ⟨_, ps_raise hc tk (pmk_own PySem.F.excBase_ValueError c.e c.g c.k (raises_own c.s c.t) hg hdb), fun ρ F P σ H Dn hl r h => h σ _ none H F Step.refl r ⟨C, c.g, rfl⟩⟩

/-! ### calls that may let something out -/
variable {CX : CXT} {k : Nat} {f : Addr} {fd : FuncData} {ps ks : List Str} {x : Str} {e : Expr} {es : List Expr} {kws : List Keyword} {p pos : Pos}
theorem de_callS {n : Nat} {g : List D → Res (D × Nat)} {fa : Env' → Res (List D × Env')} (tk : Takes X fun cls d σ H => E σ cls d H) (G : FnOk X.prog X.w X.K X.mg X.base (L2.CX X.prog X.w) k f fd ps (SpD X.K X.mg n g)) (hr : Room k X.A) (hm : X.mg x = some (.ref f)) (hk : PySem.W.keepIn X.K (.ref f) = true) (hb : Binds X.K fd ps [])
    (ha : DA X E (e :: es) fa) (hg : Gl X x := by rfl) (hdb : (x == ("__debug__" : Str)) = false := by decide) (he : starEach (e :: es) X.env = (false, eval e X.env) :: starEach es X.env := by rfl) (hpl : (backTo pos (starEach es X.env)).any (·.1) = false := by rfl) :
    DE X E (.Call (.Name x p) (e :: es) [] pos) fun ρ => fa ρ >>= fun r => if r.1.length = n then callR (g r.1) r.2 else .stuck := by
  obtain ⟨t, pa, qa⟩ := ha
  refine ⟨_, pe_callS (E := E) G hr hg hm hk hb (fun σ => passAt tk σ) pa hdb he hpl, fun ρ F P σ H Q hl r h => ?_⟩
  refine qa ρ F P σ H _ hl r (h.bind.same fun q h vs H1 F1 st r1 l => ?_)
  by_cases hlen : q.1.length = n
  case neg => rw [if_neg hlen] at h; exact h.elim
  rw [if_pos hlen] at h
  refine ⟨q.1, F1, hlen, l, fun a z => r1.dom a (.inl z), ?_⟩
  cases hgv : g q.1 with
  | stuck => rw [hgv] at h; exact h.elim
  | exc y z =>
    rw [hgv] at h
    intro cls dx H' F' al ex
    exact h cls dx H' F' (st.trans (al.step r1)) (al.rel r1) ex
  | ok c =>
    rw [hgv] at h
    intro v H' F' A al o
    exact h v H' F' A (st.trans (al.step r1)) (al.rel r1) o
def tCallKS (m : Nat) (sp : Sp) (gV : List V → List V → List V) (E : L2.St → XK) (tk : TA) : TE := fun σ H Q => tk σ H fun zs H2 => zs.length = m ∧ sp (gV [] zs) H2 Q (E σ)
theorem pe_callKS {sp : Sp} {g : List Value → List Value → List Value} {gV : List V → List V → List V} {tk : TA} (G : FnOk X.prog X.w X.K X.mg X.base CX k f fd ps sp) (hr : Room k X.A) (hm : X.mg x = some (.ref f)) (hk : PySem.W.keepIn X.K (.ref f) = true) (hb : KBn X.K fd ps 0 ks g gV) (hx : ∀ σ, PassesAt CX X σ (E σ))
    (hkw : PK X kws tk) (hg : Gl X x) (hall : (backToKw pos (keywordEach kws X.env)).all (·.1.isSome) = true) (hks : (backToKw pos (keywordEach kws X.env)).filterMap (·.1) = ks)
    (hdb : (x == ("__debug__" : Str)) = false) (hpl : ((backTo pos (starEach [] X.env)).any (·.1) || (backToKw pos (keywordEach kws X.env)).any (·.1.isNone)) = false) :
    PE X (.Call (.Name x p) [] kws pos) (tCallKS ks.length sp gV E tk) := by
  refine ⟨fun pins s σ H Q I h => wpAny_Call_Name_kw (ld_glob I hg hm ?_ hdb)⟩
  refine PySem.W.callWith_KW0 (h₀ := X.base) I.ok.mod.kin hk hall (thn (hkw.run pos pins s σ H _ I h) fun ws s2 ⟨zs, H2, I2, rz, l2, q2⟩ => ⟨I2.kIn, ?_⟩) hpl
  rw [hks]
  have bt := hb.to s2 [] ws I2.kIn rfl (rz.length.symm.trans l2)
  refine wpAny_call (codeAny_mono (G.run X.A X.stack s2 H2 ⟨[], ks.zip ws⟩ (g [] ws) (gV [] zs) Q (E σ) hr I2.env0 bt (hb.rel .nil rz) q2) fun r s' hq => ?_)
  match r, hq with
  | .error e, hq => exact hx σ pins H2 s2 e s' I2 hq
  | .ok (.ret u), hq => exact I2.after hq
theorem de_callKS {n : Nat} {π : List Nat} {g : List D → Res (D × Nat)} {fa : Env' → Res (List D × Env')} (tk : Takes X fun cls d σ H => E σ cls d H) (G : FnOk X.prog X.w X.K X.mg X.base (L2.CX X.prog X.w) k f fd ps (SpD X.K X.mg n g)) (hr : Room k X.A) (hm : X.mg x = some (.ref f)) (hk : PySem.W.keepIn X.K (.ref f) = true) (hb : KBn X.K fd ps 0 ks (fun _ ws => permF π ws) (fun _ zs => permF π zs))
    (ha : DKw X E kws fa) (hg : Gl X x := by rfl) (hall : (backToKw pos (keywordEach kws X.env)).all (·.1.isSome) = true := by rfl) (hks : (backToKw pos (keywordEach kws X.env)).filterMap (·.1) = ks := by rfl)
    (hdb : (x == ("__debug__" : Str)) = false := by decide) (hpl : ((backTo pos (starEach [] X.env)).any (·.1) || (backToKw pos (keywordEach kws X.env)).any (·.1.isNone)) = false := by rfl) :
    DE X E (.Call (.Name x p) [] kws pos) fun ρ => fa ρ >>= fun r => if r.1.length = ks.length ∧ (permF π r.1).length = n then callR (g (permF π r.1)) r.2 else .stuck := by
  obtain ⟨t, pa, qa⟩ := ha
  refine ⟨_, pe_callKS (E := E) G hr hm hk hb (fun σ => passAt tk σ) pa hg hall hks hdb hpl, fun ρ F P σ H Q hl r h => ?_⟩
  refine qa ρ F P σ H _ hl r (h.bind.same fun q h vs H1 F1 st r1 l => ?_)
  by_cases hlen : q.1.length = ks.length ∧ (permF π q.1).length = n
  case neg => rw [if_neg hlen] at h; exact h.elim
  rw [if_pos hlen] at h
  refine ⟨l.length.trans hlen.1, permF π q.1, F1, hlen.2, repl_perm l π, fun a z => r1.dom a (.inl z), ?_⟩
  cases hgv : g (permF π q.1) with
  | stuck => rw [hgv] at h; exact h.elim
  | exc y z =>
    rw [hgv] at h
    intro cls dx H' F' al ex
    exact h cls dx H' F' (st.trans (al.step r1)) (al.rel r1) ex
  | ok c =>
    rw [hgv] at h
    intro v H' F' A al o
    exact h v H' F' A (st.trans (al.step r1)) (al.rel r1) o
end

/-! ### try: .. except C: .. -/
def Exn.nm : Exn → Str
  | .plain c => c
  | .fld c _ _ => c
theorem exrep_cls {K : PySem.W.Frag} {mg : Str → Option Value} {F : AS} {H : Hp} {x : Exn} {cls : Value} {dx : Option Addr} (h : ExRep K mg F H x cls dx) : ∃ C : Addr, mg x.nm = some (.ref C) ∧ cls = .ref C := by
  cases x with
  | plain c => exact h
  | fld c f d => obtain ⟨C, _, _, h1, h2, _⟩ := h; exact ⟨C, h1, h2⟩
abbrev Hd1 := (Str → Option Bool) × SF
def handF (x : Exn) : List Hd1 → SF
  | [] => fun _ => .stuck
  | (sub, g) :: r => fun ρ => match sub x.nm with
    | some true => nx (g ρ)
    | some false => handF x r ρ
    | none => .stuck
def tryF (f : SF) (l : List Hd1) : SF := fun ρ => match f ρ with
  | .exc x ρ' => if ρ'.length = ρ.length then handF x l ρ' else .stuck
  | r => r
abbrev All1 : Nat → Bool := fun _ => true
/-- which classes a clause's class takes -/
def SubOk (K : PySem.W.Frag) (mg : Str → Option Value) (c : Value) (sub : Str → Option Bool) : Prop := ∀ (x : Str) (C : Addr) (b : Bool), sub x = some b → mg x = some (.ref C) → PySem.W.exmOne K (.ref C) c = some b
def sub1 (l : List (Str × Bool)) : Str → Option Bool := fun x => l.lookup x
theorem sub_nil {K : PySem.W.Frag} {mg : Str → Option Value} {c : Value} : SubOk K mg c (sub1 []) := fun _ _ _ e => by cases e
theorem sub_cons {K : PySem.W.Frag} {mg : Str → Option Value} {c : Value} {y : Str} {C : Addr} {b : Bool} {l : List (Str × Bool)} (g : mg y = some (.ref C)) (e : PySem.W.exmOne K (.ref C) c = some b) (h : SubOk K mg c (sub1 l)) : SubOk K mg c (sub1 ((y, b) :: l)) := by
  intro x C' b' e' m
  unfold sub1 at e'
  rw [List.lookup_cons] at e'
  cases q : x == y with
  | true =>
    rw [q] at e'
    have : x = y := by simpa using q
    subst this
    rw [g] at m
    cases m
    cases e'
    exact e
  | false => rw [q] at e'; exact h x C' b' e' m
inductive HdD (X : Cx) : List ExceptHandler → List Hd1 → Prop
  | nil : HdD X [] []
  | cons {x : Str} {c : Value} {sub : Str → Option Bool} {g : SF} {b₀ : Stmt} {suite : List Stmt} {np pos' : Pos} {hds : List ExceptHandler} {l : List Hd1} (hc : Names X x c) (hsub : SubOk X.K X.mg c sub)
      (hsu : ∀ (a : Addr) (pn : List (Addr × Obj)), DSs (X.suite a pn) E00 All1 (b₀ :: suite) g) (r : HdD X hds l) :
      HdD X (.ExceptHandler (some (.Name x np)) none (b₀ :: suite) pos' :: hds) ((sub, g) :: l)
theorem names_of {X : Cx} {x : Str} {C : Addr} (g : X.mg x = some (.ref C)) (hg : Gl X x := by rfl) (hdb : (x == ("__debug__" : Str)) = false := by decide) : Names X x (.ref C) := ⟨hg, hdb, .inl g⟩
section
variable {X : Cx} {E : Exs}
def readS (X : Cx) (E : Exs) (g : SF) : TS := fun D σ H => ∃ (ρ : Env') (F P : AS), ρ.length = X.N.length ∧ Rel X.K F P ρ σ H ∧ PostS X E All1 F P σ H D (g ρ)
theorem pss_imp {ss : List Stmt} {t t' : TS} (h : PSs X ss t) (i : ∀ D σ H, t' D σ H → t D σ H) : PSs X ss t' := ⟨fun pins s σ H D I w => h.run pins s σ H D I (i _ _ _ w)⟩
theorem readS_of {X' : Cx} {ss : List Stmt} {g : SF} (h : DSs X' E All1 ss g) (hK : X'.K = X.K) (hm : X'.mg = X.mg) (hN : X'.N = X.N) : PSs X' ss (readS X E g) := by
  obtain ⟨t, p, q⟩ := h
  refine pss_imp p fun D σ H ⟨ρ, F, P, hl, r, w⟩ => q ρ F P σ H D (by rw [hN]; exact hl) (by rw [hK]; exact r) (PostS.cx hK hm hN w)
theorem handlers_ok {hds : List ExceptHandler} {l : List Hd1} (h : HdD X hds l) : ∃ lk : List (Value × (Addr → Value → Option Addr → TS)), HdsOk X hds lk ∧
    ∀ (x : Exn) (F P : AS) (ρ : Env') (σ : L2.St) (H : Hp) (Dn : Ends) (cls : Value) (dx : Option Addr), ρ.length = X.N.length → Rel X.K F P ρ σ H → ExRep X.K X.mg F H x cls dx → PostS X E All1 F P σ H Dn (handF x l ρ) → wMany X.K (fun _ _ _ _ => False) Dn lk cls dx σ H := by
  induction h with
  | nil => exact ⟨[], .nil, fun x F P ρ σ H Dn cls dx _ _ _ w => w.elim⟩
  | @cons x c sub g b₀ suite np pos' hds l hc hsub hsu r ih =>
    obtain ⟨lk, ok, q⟩ := ih
    refine ⟨(c, fun _ _ _ => readS X E00 g) :: lk, .cons hc (fun a oe cls d pn _ _ => readS_of (hsu a _) rfl rfl rfl) ok, fun y F P ρ σ H Dn cls dx hl rr ex w => ?_⟩
    obtain ⟨C, e1, rfl⟩ := exrep_cls ex
    unfold handF at w
    cases hs : sub y.nm with
    | none => rw [hs] at w; exact w.elim
    | some b =>
      rw [hs] at w
      refine ⟨b, hsub _ _ _ hs e1, fun hb => ?_, fun hb => ?_⟩
      · subst hb
        exact fun a _ => ⟨ρ, F, P, hl, rr, PostS.to w⟩
      · subst hb
        exact q y F P ρ σ H Dn _ dx hl rr ex w
theorem ds_try {body : List Stmt} {h₀ : ExceptHandler} {hds : List ExceptHandler} {pos : Pos} {f : SF} {l : List Hd1} (hs : X.stack = X.env :: X.outer) (hf : X.env.frame = some X.env.locals)
    (hb : ∀ (Wx : WX) (pn : List (Addr × Obj)) (xe : Value → Shared → Prop), Takes (X.tr pn xe) Wx → DSs (X.tr pn xe) (fun σ cls d H => Wx cls d σ H) All1 body f)
    (hh : HdD X (h₀ :: hds) l) : DS X E All1 (.Try body (h₀ :: hds) [] [] pos) (tryF f l) := by
  obtain ⟨lk, ok, q⟩ := handlers_ok (E := E) hh
  refine ⟨_, ps_try_many (tb := fun Wx => readS X (fun σ cls d H => Wx cls d σ H) f) (Wout := fun _ _ _ _ => False) hs hf takes_none5 (fun Wx pn xe tk _ => readS_of (hb Wx pn xe tk) rfl rfl rfl) ok, fun ρ F P σ H Dn hl r h => ⟨ρ, F, P, hl, r, ?_⟩⟩
  unfold tryF at h
  cases hfr : f ρ with
  | ok a => rw [hfr] at h; obtain ⟨fl, ρ1⟩ := a; cases fl <;> exact h
  | stuck => rw [hfr] at h; exact h.elim
  | exc x ρ1 =>
    rw [hfr] at h
    intro σ1 cls dx H1 F1 st r1 ex
    by_cases hn : ρ1.length = ρ.length
    case neg => simp only [if_neg hn] at h; exact h.elim
    simp only [if_pos hn] at h
    exact q x F1 P ρ1 σ1 H1 Dn cls dx (hn.trans hl) r1 ex (PostS.imp h st fun j z => by cases z)
end

/-! ### a def that may let something out -/
def endX (r : Res (Fl × Env')) : Res (D × Nat) := match r with
  | .ok (.nx, _) => .ok (.none, 0)
  | .ok (.rt d n, _) => .ok (d, n)
  | .exc x _ => .exc x []
  | _ => .stuck
def runX (n : Nat) (fb : SF) : List D → Res (D × Nat) := fun ds => endX (fb (env0 n (ds.map fun d => (d, 0))))
abbrev bodyE (P : Program) (w : World) (K : PySem.W.Frag) (mg : Str → Option Value) (base : Heap) (N : List Str) (qual : Str) (st : Stmt) (f : Addr) (cdv : Value) (A : Around) (outer : List Env) (s : Shared) (H : Hp) (E : XK) : Cx :=
  cxOf (L2.CX P w) P w K mg base N qual (defScope st) f cdv A outer s H E
theorem takes_body {P : Program} {w : World} {K : PySem.W.Frag} {mg : Str → Option Value} {base : Heap} {N : List Str} {qual : Str} {st : Stmt} {f : Addr} {cdv : Value} {A : Around} {outer : List Env} {s : Shared} {H : Hp} {E : XK} :
    Takes (bodyE P w K mg base N qual st f cdv A outer s H E) fun cls d _ H => E cls d H := takes_of rfl rfl rfl rfl
theorem fn_exc {P : Program} {w : World} {K : PySem.W.Frag} {mg : Str → Option Value} {base : Heap} {x qual : Str} {st : Stmt} {f : Addr} {fd : FuncData} {N ps : List Str} {k : Nat} {fb : SF} (Fn : FnP K x qual st f fd) (S : FnScope N ps (defScope st)) (hn : ps.length ≤ N.length)
    (hb : ∀ (cdv : Value) (A : Around) (outer : List Env) (s : Shared) (H : Hp) (E : XK), Room k (A.deeper (envOfC qual (defScope st) s.heap.objs.size f cdv)) → DSs (bodyE P w K mg base N qual st f cdv A outer s H E) (fun _ => E) All1 (defBody st) fb) :
    FnOk P w K mg base (L2.CX P w) (k + 1) f fd ps (SpD K mg ps.length (runX N.length fb)) := by
  refine Fn.ok S (fun vs H Q E h => ?_) (fun cdv A outer s H vs Q E hr h => ?_)
  · obtain ⟨ds, F, hl, l, _⟩ := h
    rw [l.length, hl]
  obtain ⟨ds, F, hl, l, hd, h⟩ := h
  obtain ⟨t, p, q⟩ := hb cdv A outer s H E hr
  have r0 : Rel K F (fun a => H a ≠ none) (env0 N.length (ds.map fun d => (d, 0))) (L2.start N vs) H := rel_start l (fun a z => z.elim (hd a) id) (by omega)
  refine ⟨t, p, q (env0 N.length (ds.map fun d => (d, 0))) F (fun a => H a ≠ none) (L2.start N vs) H _ (env0_len (by rw [List.length_map]; omega)) r0 ?_⟩
  have toE : ∀ {F' : AS} {H' : Hp} {ρ' : Env'} {σ' : L2.St} {A : List Addr}, Step F (fun a => H a ≠ none) H F' H' → RelX K F' (fun a => H a ≠ none) ρ' σ' H' A → Alloc F H F' H' A := fun {F' H' ρ' σ' A} st r =>
    ⟨fun a o e _ => (st.prot a (by rw [e]; exact fun z => (by cases z))).trans e, fun a z => (st.grow.at_ a z).1, fun a z => (st.fresh a z).imp id fun w => .inl (Classical.not_not.mp w), fun a ha => r.2.2.2.elim fun w q => ⟨.inl (Classical.not_not.mp (q.2.2 a ha).2.2), (q.2.2 a ha).2.1⟩, r.2.2.1, fun a z => r.dom a (.inl z), st.grow.tups⟩
  unfold runX at h
  cases hf : fb (env0 N.length (ds.map fun d => (d, 0))) with
  | stuck => rw [hf] at h; exact h.elim
  | exc y z =>
    rw [hf] at h
    exact fun σ' cls dx H' F' st r1 ex => h cls dx H' F' (toE st r1) ex
  | ok y =>
    obtain ⟨fl, ρ1⟩ := y
    rw [hf] at h
    cases fl with
    | nx => exact fun σ' H' F' _ st r1 _ => h _ H' F' [] (toE st r1) ⟨rfl, .non⟩
    | bk => exact h.elim
    | ct => exact h.elim
    | rt d n => exact fun σ' v H' F' A _ st r1 o => h v H' F' A (toE st r1) o
end DL

namespace DL
open PySem PySem.Spec PyProof.Rows L2
/-! ### sorted(set(..)) of a tuple of ints -/
def SetIO (w : World) (a : Addr) (S : Int → Bool) (c : Nat) : HO := .ext fun h => SetR w h a S c
theorem setIO_ok {P : Program} {w : World} {H : Hp} {h : Heap} {a : Addr} {S : Int → Bool} {c : Nat} (R : SetR w h a S c) : ObjOk P w H h a (SetIO w a S c) := by
  have q := R
  obtain ⟨o, _, _, _, ho, _⟩ := q
  exact ⟨R, ⟨o, ho⟩, fun h1 h2 p k => SetR.at p k⟩
section
variable {X : Cx}
def rSetI (K : PySem.W.Frag) (w : World) : List V → Hp → VK → Prop := fun vs H Q => ∃ (l : Addr) (ns : List Int), vs = [V.ref l] ∧ SqT K H l (ns.map V.int) ∧ ns.length < 64 ∧
  ∀ (a : Addr) (c : Nat), H a = none → c ≤ ns.length → Q (.ref a) (upd H a (SetIO w a (fun j => decide (j ∈ ns)) c))
theorem cr_setI (hc : X.calm = true) : CallR X (.type "set") (rSetI X.K X.w) := by
  intro pins s σ H vs us Q I r h
  obtain ⟨l, ns, rfl, hs, h64, q⟩ := h
  obtain ⟨its, rv, hl, _⟩ := I.tuple hs
  rw [Vals.ref1 r]
  have hn : H s.heap.objs.size = none := I.hok.fresh (Nat.le_refl _)
  refine call_set_tupI (P := X.prog) (w := X.w) ns (I.ok.hd hc) hl (by simpa using rv.ints) (by unfold scanBound; omega) fun h' tk c R hcl k => ?_
  exact ⟨.ref s.heap.objs.size, upd H s.heap.objs.size (SetIO X.w s.heap.objs.size (fun j => decide (j ∈ ns)) c), I.laid (t' := tk) k (Nat.le_refl _) (setIO_ok R), rfl, q _ c hn hcl⟩
def rSortSI (w : World) : List V → Hp → VK → Prop := fun vs H Q => ∃ (a : Addr) (S : Int → Bool) (c : Nat), vs = [V.ref a] ∧ H a = some (SetIO w a S c) ∧ c < 64 ∧
  ∀ (ms : List Int) (p : Addr), ms.Pairwise (· < ·) → (∀ k, k ∈ ms ↔ S k = true) → H p = none → Q (.ref p) (upd H p (.lst (ms.map V.int)))
theorem cr_sortSI (hc : X.calm = true) : CallR X (.builtin "sorted") (rSortSI X.w) := by
  intro pins s σ H vs us Q I r h
  obtain ⟨a, S, c, rfl, ha, h64, q⟩ := h
  have R : SetR X.w s.heap a S c := (I.hok a _ ha).1
  rw [Vals.ref1 r]
  refine sorted_set (P := X.prog) (w := X.w) R (I.ok.hd hc) h64 fun s' p out n ms k g o hp hg hi hpw hmem hlen => ?_
  have hn : H p = none := I.hok.fresh hp
  have hv : Vals (ms.map V.int) out.toList := vals_of_ints hi
  have hsz : (ms.map V.int).length ≤ sizeLine := by rw [List.length_map, sizeLine_eq]; omega
  have J : Inv X pins σ (upd H p (.lst (ms.map V.int))) { s with heap := s'.heap, gens := s'.gens, drawn := s'.drawn, toks := s'.toks } :=
    I.call (ch := []) (Un.laid k hp hn) (I.hok.laid k hp ⟨hsz, out.toList, n, hv, hg⟩) (by rw [g]; exact I.bare) (fun _ z => nomatch z)
  have e : s' = { s with heap := s'.heap, gens := s'.gens, drawn := s'.drawn, toks := s'.toks } := by
    cases s'
    cases s
    cases o
    rfl
  rw [e]
  exact ⟨.ref p, _, J, rfl, q ms p hpw hmem hn⟩
def nubI : List Int → List Int
  | [] => []
  | p :: ps => if p ∈ ps then nubI ps else p :: nubI ps
theorem mem_nubI {p : Int} : ∀ {ps : List Int}, p ∈ nubI ps ↔ p ∈ ps
  | [] => Iff.rfl
  | q :: ps => by
    unfold nubI
    by_cases h : q ∈ ps
    · rw [if_pos h, mem_nubI, List.mem_cons]
      exact ⟨.inr, fun z => z.elim (fun e => e ▸ h) id⟩
    · rw [if_neg h, List.mem_cons, List.mem_cons, mem_nubI]
theorem nubI_nodup : ∀ {ps : List Int}, (nubI ps).Nodup
  | [] => List.nodup_nil
  | q :: ps => by
    unfold nubI
    by_cases h : q ∈ ps
    · rw [if_pos h]; exact nubI_nodup
    · rw [if_neg h]; exact List.nodup_cons.mpr ⟨fun z => h (mem_nubI.mp z), nubI_nodup⟩
def leI' (a b : Int) : Bool := decide (a ≤ b)
/-- ascending, each once -/
def setI (ns : List Int) : List Int := (nubI ns).mergeSort leI'
theorem setI_perm (ns : List Int) : (setI ns).Perm (nubI ns) := List.mergeSort_perm _ _
theorem mem_setI {k : Int} {ns : List Int} : k ∈ setI ns ↔ k ∈ ns := (setI_perm ns).mem_iff.trans mem_nubI
theorem setI_pw (ns : List Int) : (setI ns).Pairwise (· < ·) := by
  have h1 : (setI ns).Pairwise fun a b => leI' a b = true := List.pairwise_mergeSort (by intro a b c; unfold leI'; simp only [decide_eq_true_eq]; omega) (by intro a b; unfold leI'; simp only [Bool.or_eq_true, decide_eq_true_eq]; omega) _
  have h2 : (setI ns).Nodup := (setI_perm ns).nodup_iff.mpr nubI_nodup
  exact (h1.and h2).imp fun {a b} h => by
    have := h.1
    have := h.2
    unfold leI' at *
    simp only [decide_eq_true_eq] at *
    omega
theorem asc_uniq : ∀ {xs ys : List Int}, xs.Pairwise (· < ·) → ys.Pairwise (· < ·) → (∀ k, k ∈ xs ↔ k ∈ ys) → xs = ys
  | [], [], _, _, _ => rfl
  | [], y :: ys, _, _, h => absurd ((h y).mpr List.mem_cons_self) (by simp)
  | x :: xs, [], _, _, h => absurd ((h x).mp List.mem_cons_self) (by simp)
  | x :: xs, y :: ys, h1, h2, h => by
    obtain ⟨a1, a2⟩ := List.pairwise_cons.mp h1
    obtain ⟨b1, b2⟩ := List.pairwise_cons.mp h2
    have e : x = y := by
      rcases List.mem_cons.mp ((h x).mp List.mem_cons_self) with z | z
      · exact z
      · rcases List.mem_cons.mp ((h y).mpr List.mem_cons_self) with z2 | z2
        · exact z2.symm
        · have := b1 x z; have := a1 y z2; omega
    subst e
    rw [asc_uniq a2 b2 fun k => ?_]
    have hk := h k
    rw [List.mem_cons, List.mem_cons] at hk
    constructor
    · intro z
      rcases hk.mp (.inr z) with e | e
      · have := a1 k z; omega
      · exact e
    · intro z
      rcases hk.mpr (.inr z) with e | e
      · have := b1 k z; omega
      · exact e
def sortSetI : List (D × Nat) → Option (D × Nat)
  | [(.tuple ds, _)] => (intsD ds).bind fun ns => if ns.length < 64 then some (.list ((setI ns).map .int), 1) else none
  | _ => none
theorem repl_intsL {K : PySem.W.Frag} {F : AS} {H : Hp} (ns : List Int) : RepL K F H (ns.map .int) (ns.map V.int) := rep_ints ns
theorem sortsetI_core {F : AS} {H : Hp} {vs : List V} {ds : List (D × Nat)} {c : D × Nat} {Q : VK} (hd : ∀ a, F a → H a ≠ none) (oc : OwnsC X.K F H ds vs) (e : sortSetI ds = some c)
    (q : ∀ v H' F' C, Alloc F H F' H' C → Own X.K F' H' c.2 c.1 v C → Q v H') : rSetI X.K X.w vs H fun v H2 => rSortSI X.w [v] H2 Q := by
  match ds, e with
  | [(.tuple xs, n)], e =>
    simp only [sortSetI] at e
    cases hi : intsD xs with
    | none => rw [hi] at e; cases e
    | some ns =>
      rw [hi, Option.bind_some] at e
      split at e
      case isFalse => cases e
      rename_i h64
      cases e
      obtain ⟨v, A, rfl, o⟩ := owns1 oc
      obtain ⟨l, us, rfl, r, lo⟩ := own_tuple o
      rw [(AllOwn.of_rep lo).ints hi] at r
      refine ⟨l, ns, rfl, r, h64, fun a c hn hcl => ⟨a, _, c, rfl, upd_same, by omega, fun ms p hpw hmem hnone => ?_⟩⟩
      have em : ms = setI ns := asc_uniq hpw (setI_pw ns) fun k => by rw [hmem k, decide_eq_true_eq, mem_setI]
      subst em
      have hd2 : ∀ b, F b → upd H a (SetIO X.w a (fun j => decide (j ∈ ns)) c) b ≠ none := fun b f => by
        rw [upd_ne fun z => hd b f (by rw [z]; exact hn)]
        exact hd b f
      obtain ⟨al, ow⟩ := alloc_list (K := X.K) hnone hd2 (repl_intsL (setI ns))
      refine q _ _ F [p] ⟨fun b o e nb => al.same b o (by rw [upd_ne fun z => by rw [z, hn] at e; cases e]; exact e) nb, al.grow, fun b f => .inl f, fun b hb => ?_, al.nd, al.dom, fun b vs e => al.tups b vs (by rw [upd_ne fun z => by rw [z, hn] at e; cases e]; exact e)⟩ ow
      have eb : b = p := by simpa using hb
      subst eb
      refine ⟨.inl ?_, (al.own b hb).2⟩
      by_cases z : b = a
      · rw [z]; exact hn
      · rw [upd_ne z] at hnone; exact hnone
theorem de_sortsetI {E : Exs} {a : Expr} {p p2 pos q : Pos} {f : Env' → Res (List (D × Nat) × Env')} (hc : X.calm = true) (hm : X.mg "sorted" = none) (hm2 : X.mg "set" = none) (ha : DC X E [a] f) (hg : Gl X "sorted" := by rfl) (hg2 : Gl X "set" := by rfl)
    (he : starEach [a] X.env = (false, eval a X.env) :: starEach [] X.env := by rfl) (he2 : starEach [.Call (.Name "set" p2) [a] [] q] X.env = (false, eval (.Call (.Name "set" p2) [a] [] q) X.env) :: starEach [] X.env := by rfl) :
    DE X E (.Call (.Name "sorted" p) [.Call (.Name "set" p2) [a] [] q] [] pos) fun ρ => f ρ >>= fun s => liftO (sortSetI s.1) >>= fun d => .ok (d.1, d.2, s.2) := by
  obtain ⟨t, pa, qa⟩ := ha
  refine ⟨_, pe_callB (cr_sortSI hc) hg hm rfl (pa_cons (pe_callTy (cr_setI hc) hg2 hm2 rfl pa (by decide) (by decide) he rfl) pa_nil he2) (by decide) (by decide) he2 rfl, fun ρ F P σ H Q hl rr hh => ?_⟩
  exact calld_end (r := fun vs H Q => rSetI X.K X.w vs H fun v H2 => rSortSI X.w [v] H2 Q) (fun F H vs ds c Q hd oc e q => sortsetI_core hd oc e q) qa hl rr hh
end
end DL

namespace DL
open PySem PySem.Spec PyProof.Rows L2
/-! ### sorted(..) of a list of tuples of ints, of any lengths but 0 -/
section
variable {prog : Program} {w : World} {A : Around} {E : Value → Shared → Prop} {s : Shared} {Q : Bool → Shared → Prop}
theorem lexg {b fin : Bool} : ∀ {xs ys : List Value} {ns ms : List Int} (i : Nat), IntsAre xs ns → IntsAre ys ms → fin = decide (ns.length < ms.length) → Q (HT.lexLt ns ms) s → PySem.W.KatLex prog w A b fin Q (xs.zip ys) i s
  | _, _, _, _, i, .nil, .nil, e, h => by
    have : fin = false := e
    subst this
    exact PySem.W.kat_nil h
  | _, _, _, _, i, .nil, .cons q u hy, e, h => by
    have : fin = true := by rw [e]; simp
    subst this
    exact PySem.W.kat_nil h
  | _, _, _, _, i, .cons p t hx, .nil, e, h => by
    have : fin = false := by rw [e]; simp
    subst this
    exact PySem.W.kat_nil h
  | _, _, _, _, i, .cons (vs := xs) (ns := ns) p t hx, .cons (vs := ys) (ns := ms) q u hy, e, h => by
    have e' : fin = decide (ns.length < ms.length) := by
      rw [e]
      refine decide_eq_decide.mpr ?_
      simp only [List.length_cons]
      omega
    rw [HT.lexLt_cons] at h
    show PySem.W.KatLex prog w A b fin Q ((Value.int p t, Value.int q u) :: xs.zip ys) i s
    refine PySem.W.kat_cons (wpAny_eqBool_int ?_)
    by_cases z : p = q
    · rw [if_pos z] at h
      rw [show (p == q) = true from beq_iff_eq.mpr z]
      exact PySem.W.kat_yes (lexg (i + 1) hx hy e' h)
    · rw [if_neg z] at h
      rw [show (p == q) = false from beq_eq_false_iff_ne.mpr z]
      exact PySem.W.kat_no (TS.oneLt_ints _ h)
theorem tups_firsts {h : Heap} {k : Value → List Int} : ∀ vs : List Value, (∀ v ∈ vs, TS.TupInts h v (k v) ∧ k v ≠ []) → ∃ fs, PySem.W.KatTups h vs fs ∧ fs.length = vs.length ∧ ∀ f, f ∈ fs → ∃ n t, f = Value.int n t
  | [], _ => ⟨[], PySem.W.KatTups.nil, rfl, fun f hf => by simp at hf⟩
  | v :: vs, x => by
    obtain ⟨fs, kt, hl, hi⟩ := tups_firsts vs fun u hu => x u (List.mem_cons_of_mem _ hu)
    obtain ⟨⟨a, xs, rfl, ⟨o, ho, hc, n, hdt⟩, i⟩, hne⟩ := x v List.mem_cons_self
    obtain ⟨y, ys, e⟩ : ∃ y ys, xs.toList = y :: ys := by
      cases q : xs.toList with
      | nil =>
        rw [q] at i
        exact absurd (List.eq_nil_of_length_eq_zero i.length.symm) hne
      | cons y ys => exact ⟨y, ys, rfl⟩
    obtain ⟨m, t, hy⟩ := i.all y (by rw [e]; exact List.mem_cons_self)
    refine ⟨y :: fs, PySem.W.KatTups.cons ho hc hdt ?_ kt, by simp [hl], fun f hf => ?_⟩
    · have z := congrArg (fun l : List Value => l[0]?) e
      simpa using z
    · rcases List.mem_cons.mp hf with rfl | hf
      · exact ⟨m, t, hy⟩
      · exact hi f hf
theorem itups_sortable {a : Addr} {vs : List Value} {k : Value → List Int} (h2 : 2 ≤ vs.length) (hp : ∀ v ∈ vs, TS.TupInts s.heap v (k v) ∧ k v ≠ []) (ha : ∀ o, s.heap.get? a = some o → o.cls ≠ .type "tuple") :
    SrtO.SortableO prog w A s a vs fun v u => HT.lexLt (k v) (k u) := by
  intro h' keep
  have hp' : ∀ v ∈ vs, TS.TupInts h' v (k v) ∧ k v ≠ [] := fun v hm => ⟨(hp v hm).1.keeps fun b o e c => keep b o (fun z => by subst z; exact ha o e c) e, (hp v hm).2⟩
  obtain ⟨fs, h1, hl, h3⟩ := tups_firsts vs hp'
  refine ⟨tuples' true, fun Q E hq => ?_, fun p q hm hm' => ?_⟩
  · refine PySem.W.kat_kind (T := .type "int") h1 (by omega) (fun f hm => ?_) (by rfl) ?_
    · obtain ⟨x, t, rfl⟩ := h3 f hm
      exact PySem.W.Looks.now
    · have e : (Value.type "int" != Value.type "tuple") = true := by first | decide +kernel | rfl | decide
      rw [e]
      exact hq
  · have x1 := (hp' _ hm).1
    have x2 := (hp' _ hm').1
    show wpAny (model prog w) A (keyLt' (tuples' true) p.1 q.1) (fun r s' => s' = _ ∧ r = HT.lexLt (k p.1) (k q.1)) (fun _ _ => False) _
    generalize k p.1 = ns at x1 ⊢
    generalize k q.1 = ms at x2 ⊢
    obtain ⟨a1, xs, e1, ⟨o, ho, hc, n, hdt⟩, i⟩ := x1
    obtain ⟨a2, ys, e2, ⟨o', ho', hc', n', hdt'⟩, i'⟩ := x2
    rw [e1, e2]
    refine PySem.W.kat_lt ho hdt ho' hdt' ?_
    refine lexg 0 i i' ?_ ⟨rfl, rfl⟩
    have l1 := i.length
    have l2 := i'.length
    rw [Array.length_toList] at l1 l2
    rw [l1, l2]
end
/-- the sequence of tuples -/
def leL (a b : List Int) : Bool := !HT.lexLt b a
theorem leL_trans (a b c : List Int) : leL a b = true → leL b c = true → leL a c = true := by
  unfold leL
  simp only [Bool.not_eq_true']
  exact fun h1 h2 => NtL.lex_tr _ _ _ h1 h2
theorem leL_total (a b : List Int) : (leL a b || leL b a) = true := by
  unfold leL
  cases h : HT.lexLt b a with
  | false => rfl
  | true => rw [NtL.lex_asym _ _ h]; rfl
theorem leL_anti : ∀ {a b : List Int}, leL a b = true → leL b a = true → a = b
  | [], [], _, _ => rfl
  | [], _ :: _, _, h => by cases h
  | _ :: _, [], h, _ => by cases h
  | x :: xs, y :: ys, h1, h2 => by
    unfold leL at h1 h2
    rw [HT.lexLt_cons, Bool.not_eq_true'] at h1 h2
    by_cases e : x = y
    · subst e
      rw [if_pos rfl] at h1 h2
      rw [leL_anti (a := xs) (b := ys) (by unfold leL; rw [h1]; rfl) (by unfold leL; rw [h2]; rfl)]
    · rw [if_neg e] at h2
      rw [if_neg fun z => e z.symm] at h1
      simp only [decide_eq_false_iff_not] at h1 h2
      omega
def sortL (ps : List (List Int)) : List (List Int) := ps.mergeSort leL
theorem sortL_perm (ps : List (List Int)) : (sortL ps).Perm ps := List.mergeSort_perm _ _
theorem sortL_sorted (ps : List (List Int)) : (sortL ps).Pairwise fun a b => leL a b = true := List.pairwise_mergeSort leL_trans leL_total _
theorem sortedL_uniq : ∀ {xs ys : List (List Int)}, xs.Perm ys → xs.Pairwise (fun a b => leL a b = true) → ys.Pairwise (fun a b => leL a b = true) → xs = ys := fun p h1 h2 => p.eq_of_pairwise (fun _ _ _ _ a b => leL_anti a b) h1 h2
section
variable {X : Cx}
def rSortedLT (K : PySem.W.Frag) : List V → Hp → VK → Prop := fun vs H Q => ∃ (a : Addr) (xs : List V) (ps : List (List Int)), vs = [V.ref a] ∧ SqL K H a xs ∧ xs.length = ps.length ∧ (∀ (i : Nat) (x : V) (p : List Int), xs[i]? = some x → ps[i]? = some p → TupI K H x p ∧ p ≠ []) ∧
  ∀ (zs : List (V × List Int)) (p : Addr), zs.Perm (xs.zip ps) → zs.map (·.2) = sortL ps → H p = none → Q (.ref p) (upd H p (.lst (zs.map (·.1))))
theorem cr_sortedLT : CallR X (.builtin "sorted") (rSortedLT X.K) := by
  intro pins s σ H vs us Q I r h
  obtain ⟨a, xs, ps, rfl, hs, hlen, hx, q⟩ := h
  obtain ⟨its, rv, hl, hz⟩ := I.list hs
  rw [Vals.ref1 r]
  have hr : ∀ x ∈ xs, ∃ t, x = V.ref t := fun x m => by
    obtain ⟨i, hi, e⟩ := List.getElem_of_mem m
    obtain ⟨⟨t, z, _⟩, _⟩ := hx i x (ps[i]'(by omega)) (by rw [← e]; exact List.getElem?_eq_getElem hi) (List.getElem?_eq_getElem _)
    exact ⟨t, z⟩
  obtain ⟨e1, e2⟩ := bkV_refs rv hr
  have il : its.length = ps.length := rv.length.symm.trans hlen
  have at_ : ∀ (i : Nat) (v : Value) (p : List Int), its[i]? = some v → ps[i]? = some p → TS.TupInts s.heap v p ∧ p ≠ [] := fun i v p h1 h2 => by
    obtain ⟨t, rfl⟩ := e2 v (List.mem_of_getElem? h1)
    obtain ⟨⟨t', e, ht⟩, hne⟩ := hx i (V.ref t) p (by rw [e1, List.getElem?_map, h1]; rfl) h2
    cases e
    exact ⟨tupI_raw I ht, hne⟩
  have ek : ps = its.map (TS.intsOf s.heap) := by
    refine List.ext_getElem? fun i => ?_
    rw [List.getElem?_map]
    cases hv : its[i]? with
    | none =>
      have := List.getElem?_eq_none_iff.mp hv
      rw [List.getElem?_eq_none (by omega)]
      rfl
    | some v =>
      have hi : i < its.length := (List.getElem?_eq_some_iff.mp hv).1
      have hp : ps[i]? = some (ps[i]'(by omega)) := List.getElem?_eq_getElem _
      have z := (at_ i v _ hv hp).1.ints
      rw [hp, Option.map_some, z]
  have ok : ∀ v ∈ its, TS.TupInts s.heap v (TS.intsOf s.heap v) ∧ TS.intsOf s.heap v ≠ [] := fun v hv => by
    obtain ⟨i, hi, e⟩ := List.getElem_of_mem hv
    have h1 : its[i]? = some v := by rw [← e]; exact List.getElem?_eq_getElem hi
    have h2 : ps[i]? = some (TS.intsOf s.heap v) := by rw [ek, List.getElem?_map, h1]; rfl
    exact at_ i v _ h1 h2
  have ez : xs.zip ps = its.map fun u => (bkV u, TS.intsOf s.heap u) := by rw [e1, ek, List.zip_map']
  refine SrtO.sorted_ord (NtL.swo_lexL (TS.intsOf s.heap)) hl.isList (rv.length ▸ hz) (fun h2 h₁ a' ha kk => ?_) fun out h1 h2 => ?_
  · refine itups_sortable (s := { s with heap := h₁ }) h2 (fun v hv => ⟨(ok v hv).1.keeps fun b o e _ => (kk b o e).2, (ok v hv).2⟩) fun o e => ?_
    have e' : some o = some (seqObj "list" its.toArray 0) := e.symm.trans ha
    cases e'
    intro c
    exact absurd (Value.type.inj c) (by decide)
  · obtain ⟨n, hn⟩ := PyProof.Rows.sortedAll_at s.heap its out.toArray
    have hv := bkV_vals (us := out) fun u hu => e2 u (h2.perm.mem_iff.mp hu)
    have hp : (out.map fun u => (bkV u, TS.intsOf s.heap u)).Perm (xs.zip ps) := ez ▸ h2.perm.map _
    have hs2 : (out.map fun u => (bkV u, TS.intsOf s.heap u)).map (·.2) = sortL ps := by
      rw [List.map_map]
      refine sortedL_uniq ((h2.perm.map (TS.intsOf s.heap)).trans (ek ▸ (sortL_perm ps).symm)) ?_ (sortL_sorted ps)
      refine List.pairwise_map.mpr (h1.imp fun {x y} z => ?_)
      show (!HT.lexLt (TS.intsOf s.heap y) (TS.intsOf s.heap x)) = true
      rw [show HT.lexLt (TS.intsOf s.heap y) (TS.intsOf s.heap x) = false from z]
      rfl
    have ht := q _ (s.heap.objs.size + 1) hp hs2 (I.hok.fresh (Nat.le_succ _))
    rw [List.map_map] at ht
    refine ⟨.ref _, upd H (s.heap.objs.size + 1) (.lst (out.map bkV)), I.laid (t' := s.toks) (fun _ _ => PyProof.Rows.sortedAll_old) (Nat.le_succ _) ⟨?_, out, n, hv, hn⟩, rfl, ht⟩
    rw [List.length_map, h2.perm.length_eq, ← rv.length]
    exact hz
def lisV (ns : List Int) : D := .tuple (ns.map .int)
def lisOf : D → Option (List Int)
  | .tuple ds => (intsD ds).bind fun ns => if ns.isEmpty then none else some ns
  | _ => none
def lissD : List D → Option (List (List Int))
  | [] => some []
  | d :: ds => (lisOf d).bind fun x => (lissD ds).map fun xs => x :: xs
theorem lisOf_some {d : D} {ns : List Int} (h : lisOf d = some ns) : d = lisV ns ∧ ns ≠ [] := by
  cases d with
  | tuple ds =>
    simp only [lisOf] at h
    cases hi : intsD ds with
    | none => rw [hi] at h; cases h
    | some ms =>
      rw [hi, Option.bind_some] at h
      split at h
      · cases h
      · rename_i hne
        cases h
        exact ⟨by unfold lisV; rw [intsD_of hi], fun z => hne (by rw [z]; rfl)⟩
  | _ => cases h
theorem lissD_some : ∀ {ds : List D} {ps : List (List Int)}, lissD ds = some ps → ds = ps.map lisV ∧ ∀ p ∈ ps, p ≠ []
  | [], ps, h => by cases h; exact ⟨rfl, fun p hp => by cases hp⟩
  | d :: ds, ps, h => by
    simp only [lissD] at h
    cases h1 : lisOf d with
    | none => rw [h1] at h; cases h
    | some x =>
      rw [h1, Option.bind_some] at h
      cases h2 : lissD ds with
      | none => rw [h2] at h; cases h
      | some xs =>
        rw [h2] at h
        cases h
        obtain ⟨e1, n1⟩ := lisOf_some h1
        obtain ⟨e2, n2⟩ := lissD_some h2
        exact ⟨by rw [e1, e2]; rfl, fun p hp => by
          rcases List.mem_cons.mp hp with rfl | hp
          · exact n1
          · exact n2 p hp⟩
def sortedLD : List (D × Nat) → Option (D × Nat)
  | [(.list xs, _)] => (lissD xs).map fun ps => (.list ((sortL ps).map lisV), 1)
  | _ => none
theorem lis_at {K : PySem.W.Frag} {F : AS} {H : Hp} {p : List Int} {v : V} (r : Rep K F H (lisV p) v) : TupI K H v p := by
  obtain ⟨a, vs, rfl, hH, l⟩ := rep_tuple' r
  have e := (AllOwn.of_rep l).ints (ns := p) (ints_map p)
  rw [e] at hH
  exact ⟨a, rfl, SqT.grow (Grow.refl F H) hH⟩
theorem own_liss {K : PySem.W.Frag} {F : AS} {H : Hp} {n : Nat} : ∀ {ps : List (List Int)} {vs : List V} {B : List Addr}, AllOwn (Own K F H n) (ps.map lisV) vs B → RepL K F H (ps.map lisV) vs
  | [], _, _, .nil => .nil
  | p :: ps, _, _, .cons o t => .cons (own_still o rfl).2 (own_liss t)
theorem zip_repL {K : PySem.W.Frag} {F : AS} {H : Hp} {xs : List V} {ps : List (List Int)} (l : RepL K F H (ps.map lisV) xs) : ∀ z ∈ xs.zip ps, Rep K F H (lisV z.2) z.1 := fun z hz => by
  obtain ⟨i, hi, e⟩ := List.getElem_of_mem hz
  have e' : (xs.zip ps)[i]? = some z := by rw [← e]; exact List.getElem?_eq_getElem hi
  obtain ⟨h1, h2⟩ := List.getElem?_zip_eq_some.mp e'
  obtain ⟨v, hv, r⟩ := l.get (i := i) (d := lisV z.2) (by rw [List.getElem?_map, h2]; rfl)
  rw [h1] at hv
  cases hv
  exact r
theorem repl_ofL {K : PySem.W.Frag} {F : AS} {H : Hp} : ∀ {zs : List (V × List Int)}, (∀ z ∈ zs, Rep K F H (lisV z.2) z.1) → RepL K F H ((zs.map (·.2)).map lisV) (zs.map (·.1))
  | [], _ => .nil
  | z :: zs, h => .cons (h z List.mem_cons_self) (repl_ofL fun y hy => h y (List.mem_cons_of_mem _ hy))
theorem cd_sortedL : CallD X (.builtin "sorted") sortedLD := by
  refine ⟨_, cr_sortedLT, fun F H vs ds c Q hd oc e q => ?_⟩
  match ds, e with
  | [(.list xs, n)], e =>
    simp only [sortedLD] at e
    cases hi : lissD xs with
    | none => rw [hi] at e; cases e
    | some ps =>
      rw [hi] at e
      cases e
      obtain ⟨v, A, rfl, o⟩ := owns1 oc
      obtain ⟨a, us, B, rfl, r, l⟩ := own_list o
      obtain ⟨ex, hne⟩ := lissD_some hi
      subst ex
      have lr := own_liss l
      refine ⟨a, us, ps, rfl, r, by rw [lr.length, List.length_map], fun i x p h1 h2 => ?_, fun zs p hp hs hn => ?_⟩
      · obtain ⟨v, hv, rp⟩ := lr.get (i := i) (d := lisV p) (by rw [List.getElem?_map, h2]; rfl)
        rw [h1] at hv
        cases hv
        exact ⟨lis_at rp, hne p (List.mem_of_getElem? h2)⟩
      · have rl : RepL X.K F H ((sortL ps).map lisV) (zs.map (·.1)) := by
          rw [← hs]
          exact repl_ofL fun z hz => zip_repL lr z (hp.mem_iff.mp hz)
        obtain ⟨al, ow⟩ := alloc_list hn hd rl
        exact q _ _ _ _ al ow
end
end DL

namespace DL
open PySem PySem.Spec PyProof.Rows L2
/-! ### dicts whose keys are ints -/
abbrev KD := List (Int × D)
def encK (es : KD) : List (D × D) := es.map fun p => (.int p.1, p.2)
def decK : List (D × D) → Option KD
  | [] => some []
  | (.int i, d) :: r => (decK r).map fun t => (i, d) :: t
  | _ => none
@[simp] theorem decK_enc : ∀ es : KD, decK (encK es) = some es
  | [] => rfl
  | (i, d) :: r => by
    show (decK (encK r)).map (fun t => (i, d) :: t) = _
    rw [decK_enc r]
    rfl
def kdic (es : KD) : D := .dict (encK es)
def kOf : D → Option KD
  | .dict kvs => decK kvs
  | _ => none
@[simp] theorem kOf_kdic (es : KD) : kOf (kdic es) = some es := decK_enc es
theorem decK_noT (es : TD) : decK (encT es) = none := by
  cases es with
  | nil => rfl
  | cons p es => rfl
abbrev PK' (K : PySem.W.Frag) (F : AS) (H : Hp) : KD → List (Key × V) → Prop := Paired fun p q => Sum.inl p.1 = q.1 ∧ Rep K F H p.2 q.2
section
variable {K : PySem.W.Frag} {F F' P : AS} {H H' : Hp}
theorem RepK.dec : ∀ {kvs : List (D × D)} {ks : List (Key × V)} {es : KD}, RepK K F H kvs ks → decK kvs = some es → PK' K F H es ks
  | _, _, _, .nil, e => by cases e; exact .nil
  | _, _, es, .cons (k := k) (ds := ds) h t, e => by
    cases k with
    | inr x => cases e
    | inl i =>
      have e : (decK ds).map (fun t => (i, _) :: t) = some es := e
      cases q : decK ds with
      | none => rw [q] at e; cases e
      | some es' =>
        rw [q] at e
        cases e
        exact .cons ⟨rfl, h⟩ (RepK.dec t q)
theorem RepK.enc {es : KD} {ks : List (Key × V)} (p : PK' K F H es ks) : RepK K F H (encK es) ks := by
  induction p with
  | nil => exact .nil
  | @cons a b as bs h t ih =>
    obtain ⟨i, d⟩ := a
    obtain ⟨k', v⟩ := b
    obtain ⟨rfl, r⟩ := h
    exact .cons (k := .inl i) r ih
def putKD (es : KD) (k : Int) (d : D) : KD := if (es.any fun p => decide (p.1 = k)) = true then es.map fun p => if p.1 = k then (p.1, d) else p else es ++ [(k, d)]
def lookK (es : KD) (k : Int) : Option D := (es.find? fun p => decide (p.1 = k)).map (·.2)
theorem inl_iff {i k : Int} : (Sum.inl i : Key) = Sum.inl k ↔ i = k := ⟨fun h => Sum.inl.inj h, fun h => by rw [h]⟩
theorem pk_any {es : KD} {ks : List (Key × V)} (k : Int) (p : PK' K F H es ks) : (ks.any fun p => decide (p.1 = Sum.inl k)) = es.any fun p => decide (p.1 = k) := by
  induction p with
  | nil => rfl
  | cons h t ih =>
    rw [List.any_cons, List.any_cons, ih, ← h.1]
    congr 1
    exact decide_eq_decide.mpr inl_iff
theorem pk_put {es : KD} {ks : List (Key × V)} {d : D} {v : V} (k : Int) (p : PK' K F H es ks) (r : Rep K F H d v) : PK' K F H (putKD es k d) (putK ks (Sum.inl k) v) := by
  unfold putKD putK
  rw [pk_any k p]
  by_cases z : (es.any fun p => decide (p.1 = k)) = true
  · rw [if_pos z, if_pos z]
    clear z
    induction p with
    | nil => exact .nil
    | @cons a b as bs h t ih =>
      refine .cons ?_ ih
      dsimp only
      by_cases e : a.1 = k
      · rw [if_pos e, if_pos (h.1 ▸ inl_iff.mpr e)]
        exact ⟨h.1, r⟩
      · rw [if_neg e, if_neg (h.1 ▸ fun q => e (inl_iff.mp q))]
        exact h
  · rw [if_neg z, if_neg z]
    clear z
    induction p with
    | nil => exact .cons ⟨rfl, r⟩ .nil
    | cons h t ih => exact .cons h ih
theorem pk_look {es : KD} {ks : List (Key × V)} (k : Int) (p : PK' K F H es ks) : (∀ d, lookK es k = some d → ∃ v, valV ks (Sum.inl k) = some v ∧ Rep K F H d v) ∧ (lookK es k = none → valV ks (Sum.inl k) = none) := by
  induction p with
  | nil => exact ⟨fun d e => (by cases e), fun _ => rfl⟩
  | @cons a b as bs h t ih =>
    obtain ⟨i, x⟩ := a
    obtain ⟨k', v⟩ := b
    obtain ⟨e1, r⟩ := h
    have e1 : (Sum.inl i : Key) = k' := e1
    subst e1
    by_cases e : i = k
    · subst e
      refine ⟨fun d e => ⟨v, valV_pos rfl, ?_⟩, fun e => ?_⟩
      · simp [lookK] at e
        subst e
        exact r
      · simp [lookK] at e
    · have h1 : lookK ((i, x) :: as) k = lookK as k := by simp [lookK, e]
      rw [h1, valV_neg fun q => e (inl_iff.mp q)]
      exact ih
theorem PK'.length {es : KD} {ks : List (Key × V)} (p : PK' K F H es ks) : ks.length = es.length := by
  induction p with
  | nil => rfl
  | cons h t ih => rw [List.length_cons, List.length_cons, ih]
theorem PK'.get {es : KD} {ks : List (Key × V)} (p : PK' K F H es ks) : ∀ {i : Nat} {x : Int × D}, es[i]? = some x → ∃ v, ks[i]? = some (Sum.inl x.1, v) ∧ Rep K F H x.2 v := by
  induction p with
  | nil => intro i x e; simp at e
  | @cons a b as bs h t ih =>
    intro i x e
    cases i with
    | zero =>
      simp at e
      subst e
      obtain ⟨k, v⟩ := b
      exact ⟨v, by rw [h.1]; rfl, h.2⟩
    | succ i =>
      rw [List.getElem?_cons_succ] at e
      rw [List.getElem?_cons_succ]
      exact ih e
theorem PK'.mono {es : KD} {ks : List (Key × V)} (p : PK' K F H es ks) (g : Grow F H F' H') : PK' K F' H' es ks := by
  induction p with
  | nil => exact .nil
  | cons h t ih => exact .cons ⟨h.1, h.2.mono g⟩ ih
theorem kOf_own {d : D} {es : KD} (h : kOf d = some es) {v : V} {A : List Addr} (o : Own K F H 1 d v A) : ∃ a ks, v = .ref a ∧ H a = some (.dK ks) ∧ A = [a] ∧ PK' K F H es ks := by
  cases d <;> try (simp only [kOf] at h; cases h)
  rename_i kvs
  have h : decK kvs = some es := h
  rcases o with ⟨_, z, _⟩ | ⟨ds, a, vs, B, z, _⟩ | ⟨kvs', a, ks, h1, h2, h3, h4, h5⟩ | ⟨kvs', a, ks, h1, h2, h3, h4, h5⟩
  · cases z
  · cases z
  · cases h1
    exact ⟨a, ks, h2, h3, h4, h5.dec h⟩
  · cases h1
    obtain ⟨es', e, p⟩ := h5.dec
    rw [e, decK_noT] at h
    cases h
theorem kOf_rep {d : D} {es : KD} (h : kOf d = some es) {v : V} (o : Rep K F H d v) : ∃ a ks, v = .ref a ∧ Rd H a (.dK ks) ∧ PK' K F H es ks := by
  cases d <;> try (simp only [kOf] at h; cases h)
  rename_i kvs
  have h : decK kvs = some es := h
  cases o with
  | dK f r l => exact ⟨_, _, rfl, r, l.dec h⟩
  | dT f r l =>
    obtain ⟨es', e, p⟩ := l.dec
    rw [e, decK_noT] at h
    cases h
/-- at a slot: its own, or one that is read alone -/
def kAny (x : Option (D × Nat)) : Option KD := match x with
  | some (d, 0) => kOf d
  | some (d, 1) => kOf d
  | _ => none
theorem kAny_some {x : Option (D × Nat)} {es : KD} (h : kAny x = some es) : ∃ d n, x = some (d, n) ∧ ∀ (K : PySem.W.Frag) (F : AS) (H : Hp) (v : V) (A : List Addr), Own K F H n d v A → ∃ a ks, v = .ref a ∧ Rd H a (.dK ks) ∧ PK' K F H es ks := by
  unfold kAny at h
  split at h
  · exact ⟨_, 0, rfl, fun K F H v A o => kOf_rep h o.2⟩
  · refine ⟨_, 1, rfl, fun K F H v A o => ?_⟩
    obtain ⟨a, ks, e1, e2, e3, p⟩ := kOf_own h o
    exact ⟨a, ks, e1, .inl e2, p⟩
  · cases h
def keysKD (es : KD) : List D := es.map fun p => .int p.1
theorem it_keysK {d : Addr} {o : Obj} {ks : List (Key × V)} {es : KD} (f : F d) (h : H d = some (.frz o (.dK ks))) (p : PK' K F H es ks) : ItRep K F (Itk d o ks) (keysKD es) H := by
  intro i H1 F1 g hd
  have h1 : H1 d = some (.frz o (.dK ks)) := (g.at_ d f).2.trans h
  refine ⟨fun x e => ?_, fun z => ⟨h1, by rw [p.length]; simpa [keysKD] using z⟩⟩
  simp only [keysKD, List.getElem?_map] at e
  cases e1 : es[i]? with
  | none => rw [e1] at e; cases e
  | some y =>
    rw [e1] at e
    cases e
    obtain ⟨v, hv, _⟩ := p.get e1
    refine ⟨⟨h1, (List.getElem?_eq_some_iff.mp hv).1⟩, fun x H2 q => ?_⟩
    obtain ⟨rfl, k, v', hk, rfl⟩ := q
    rw [hv] at hk
    cases hk
    exact ⟨F1, Alloc.refl hd, .int _⟩
end
section
variable {X : Cx} {E : Exs} {e : Expr} {es : List Expr} {pos apos cpos : Pos} {W : Nat → Bool}
/-- {}, for ints as keys -/
theorem de_dnewK : DE X E (.Dict [] [] pos) fun ρ => .ok (kdic [], 1, ρ) := by
  refine ⟨_, pe_dnewK, fun ρ F P σ H Q hl r h => ?_⟩
  intro p hp
  have hd : ∀ a, F a → H a ≠ none := fun a z => r.dom a (.inl z)
  have ef : Alloc F H F (upd H p (.dK [])) [p] := ⟨fun a o q n => by rw [upd_ne fun z => by rw [z, hp] at q; cases q]; exact q, fun _ z => z, fun _ z => .inl z, fun a ha => by rw [List.mem_singleton.mp ha]; exact ⟨.inl hp, fun z => hd p z hp⟩, by simp, fun a z => upd_some (hd a z), fun a vs q => by rw [upd_ne fun z => by rw [z, hp] at q; cases q]; exact q⟩
  exact h _ _ F [p] (ef.step r) (ef.rel r) (.inr (.inr (.inl ⟨_, p, [], rfl, rfl, upd_same, rfl, .nil⟩)))
/-- name[k] -/
def dgetP (i : Nat) (fk : PF) : PF := fun ρ => (kAny (getS ρ i)).bind fun es => (fk ρ).bind fun y => (isI y.1).bind fun k => (lookK es k).map fun d => (d, 0)
theorem isI_some {d : D} {k : Int} (h : isI d = some k) : d = .int k := by
  cases d <;> cases h
  rfl
theorem dp_dget (i : Nat) {x : Str} {p : Pos} {ix : Expr} {fk : PF} (hu : X.A.units + 1 < cLine) (hk : DP X ix fk) (hs : NoSl ix := by exact fun _ _ => rfl) (hN : X.N[i]? = some x := by rfl) (hx : Vis X.env.scope x := by first | exact Or.inl rfl | exact Or.inr (Or.inl rfl) | exact Or.inr (Or.inr rfl)) (hd : (x == ("__debug__" : Str)) = false := by decide) (hcd : (x == ("__classdict__" : Str)) = false := by decide) :
    DP X (.Subscript (.Name x p) ix pos) (dgetP i fk) := by
  obtain ⟨tk, pk, qk⟩ := hk
  refine ⟨_, pe_dget hu (pe_var hN hx hd hcd) pk hs, fun ρ F P σ H Q d n hl r e q => ?_⟩
  unfold dgetP at e
  simp only [Option.bind_eq_some_iff, Option.map_eq_some_iff] at e
  obtain ⟨es, e1, y, e2, k, e3, d', e4, e5⟩ := e
  cases e5
  obtain ⟨dd, m, e6, hrd⟩ := kAny_some e1
  obtain ⟨v0, B0, s1, o1, _⟩ := r.slot (getS_some e6)
  refine ⟨v0, s1, qk ρ F P σ H _ y.1 y.2 hl r e2 fun w A ow => ?_⟩
  rw [isI_some e3] at ow
  have := own_int ow
  subst this
  obtain ⟨a, ks, rfl, rd, pk'⟩ := hrd _ _ _ _ _ o1
  obtain ⟨v, hv, rv⟩ := (pk_look k pk').1 _ e4
  exact ⟨a, v, rfl, .inl ⟨ks, Sum.inl k, rd, rfl, hv.symm⟩, q v [] ⟨rfl, rv⟩⟩
/-- name.get(k, x) -/
def dgetE (i : Nat) (fk : PF) (fd : EF) : EF := fun ρ => if (kAny (getS ρ i)).isSome = true then liftO ((fk ρ).bind fun y => isI y.1) >>= fun k => fd ρ >>= fun z => liftO (kAny (getS z.2.2 i)) >>= fun es => .ok ((lookK es k).getD z.1, 0, z.2.2) else .stuck
theorem de_dget (i : Nat) {x : Str} {p : Pos} {ix dx : Expr} {fk : PF} {fd : EF} (hu : X.A.units + 1 < cLine) (hk : DP X ix fk) (hdx : DE X E dx fd) (m : M2 X (.Name x p) "get" apos ix dx cpos := by exact ⟨rfl, rfl, rfl, rfl⟩) (hN : X.N[i]? = some x := by rfl) (hx : Vis X.env.scope x := by first | exact Or.inl rfl | exact Or.inr (Or.inl rfl) | exact Or.inr (Or.inr rfl)) (hd : (x == ("__debug__" : Str)) = false := by decide) (hcd : (x == ("__classdict__" : Str)) = false := by decide) :
    DE X E (.Call (.Attribute (.Name x p) "get" apos) [ix, dx] [] cpos) (dgetE i fk fd) := by
  obtain ⟨tk, pk, qk⟩ := hk
  obtain ⟨td, pd, qd⟩ := hdx
  refine ⟨_, pe_dget2 hu (pe_var hN hx hd hcd) pk pd m, fun ρ F P σ H Q hl r h => ?_⟩
  unfold dgetE at h
  split at h
  case isFalse => exact h.elim
  rename_i h0
  obtain ⟨es0, e0⟩ := Option.isSome_iff_exists.mp h0
  obtain ⟨dd, m, e6, hrd⟩ := kAny_some e0
  obtain ⟨v0, B0, s1, o1, _⟩ := r.slot (getS_some e6)
  obtain ⟨a, ks, rfl, rd, pk'⟩ := hrd _ _ _ _ _ o1
  cases hfk : (fk ρ).bind fun y => isI y.1 with
  | none => rw [hfk] at h; exact h.elim
  | some k =>
  rw [hfk] at h
  simp only [liftO, bind_ok] at h
  obtain ⟨y, ey, ek⟩ := Option.bind_eq_some_iff.mp hfk
  refine ⟨_, s1, a, rfl, .inl ⟨ks, rd⟩, qk ρ F P σ H _ y.1 y.2 hl r ey fun w A ow => ?_⟩
  rw [isI_some ek] at ow
  have := own_int ow
  subst this
  refine qd ρ F P σ H _ hl r (h.bind.same fun z hz u H1 F1 A st r1 o => ?_)
  obtain ⟨dz, nz, ρ1⟩ := z
  simp only at hz r1 o
  obtain ⟨F2, st2, r2, rp⟩ := frozen_seq r1 o
  cases h2 : kAny (getS ρ1 i) with
  | none => rw [h2] at hz; exact hz.elim
  | some es =>
  rw [h2] at hz
  obtain ⟨d2, m2, e7, hrd2⟩ := kAny_some h2
  obtain ⟨v2, B2, s2, o2, _⟩ := r2.slot (getS_some e7)
  rw [s1] at s2
  cases s2
  obtain ⟨a', ks2, ea, rd2, pk2⟩ := hrd2 _ _ _ _ _ o2
  cases ea
  refine ⟨valV ks2 (Sum.inl k), .inl ⟨ks2, Sum.inl k, rd2, rfl, rfl⟩, ?_⟩
  have hz := (show ∀ v H' F' A, Step F P H F' H' → RelX X.K F' P ρ1 σ H' A → Own X.K F' H' 0 ((lookK es k).getD dz) v A → Q v H' from hz)
  refine hz _ H1 F2 [] (st.trans st2) r2 ⟨rfl, ?_⟩
  cases hlk : lookK es k with
  | none => rw [(pk_look k pk2).2 hlk]; exact rp
  | some d =>
    obtain ⟨v, hv, rv⟩ := (pk_look k pk2).1 d hlk
    rw [hv]
    exact rv
/-- name[k] = value -/
def kAt (x : Option (D × Nat)) : Option KD := match x with
  | some (d, 1) => kOf d
  | _ => none
theorem kAt_some {x : Option (D × Nat)} {es : KD} (h : kAt x = some es) : ∃ d, x = some (d, 1) ∧ kOf d = some es := by
  unfold kAt at h
  split at h
  · exact ⟨_, rfl, h⟩
  · cases h
def putKF (i : Nat) (fv : EF) (fk : PF) : SF := fun ρ => fv ρ >>= fun y => liftO (kAt (getS y.2.2 i)) >>= fun es => liftO ((fk y.2.2).bind fun y => isI y.1) >>= fun k => if es.length < line then .ok (.nx, y.2.2.set i (some (kdic (putKD es k y.1), 1))) else .stuck
theorem ds_dputK (i : Nat) {x : Str} {p pos' : Pos} {ix value : Expr} {fv : EF} {fk : PF} (hu : X.A.units + 1 < cLine) (hv : DE X E value fv) (hk : DP X ix fk) (hN : X.N[i]? = some x := by rfl) (hx : Vis X.env.scope x := by first | exact Or.inl rfl | exact Or.inr (Or.inl rfl) | exact Or.inr (Or.inr rfl)) (hd : (x == ("__debug__" : Str)) = false := by decide) (hcd : (x == ("__classdict__" : Str)) = false := by decide)
    (hs : swapsWith value (some (.Subscript (.Name x p) ix pos')) pos.line X.env = pure false := by rfl) : DS X E W (.Assign [.Subscript (.Name x p) ix pos'] value pos) (putKF i fv fk) := by
  obtain ⟨tv, pv, qv⟩ := hv
  obtain ⟨tk, pk, qk⟩ := hk
  refine ⟨_, ps_dput hu (pe_var hN hx hd hcd) pk pv hs, fun ρ F P σ H Dn hl r h => qv ρ F P σ H _ hl r (PostS.of h |>.same fun y hy v H1 F1 A st r1 o1 => ?_)⟩
  obtain ⟨dy, ny, ρ1⟩ := y
  simp only at hy r1 o1
  obtain ⟨F2, st2, r2, rp⟩ := frozen_seq r1 o1
  have l1 := rel_len r hl r1
  cases ht : kAt (getS ρ1 i) with
  | none => rw [ht] at hy; exact hy.elim
  | some es =>
  rw [ht] at hy
  simp only [liftO, bind_ok] at hy
  obtain ⟨d1, hg1, hd1⟩ := kAt_some ht
  obtain ⟨v', C, e2, o2, r4⟩ := r2.take (getS_some hg1)
  obtain ⟨a, kk, rfl, hH, rfl, pt⟩ := kOf_own hd1 o2
  cases hfk : (fk ρ1).bind fun y => isI y.1 with
  | none => rw [hfk] at hy; exact hy.elim
  | some k =>
  rw [hfk] at hy
  simp only [bind_ok] at hy
  obtain ⟨yk, ey, ek⟩ := Option.bind_eq_some_iff.mp hfk
  by_cases z1 : es.length < line
  case neg => rw [if_neg z1] at hy; exact hy.elim
  rw [if_pos z1] at hy
  refine ⟨_, e2, qk ρ1 F2 P σ H1 _ yk.1 yk.2 l1 r2 ey fun w A' ow => ?_⟩
  rw [isI_some ek] at ow
  have := own_int ow
  subst this
  have nF : ¬ F2 a := r4.2.2.2.elim fun w q => (q.2.2 a (by simp)).2.1
  have hdm : ∀ x, F2 x → H1 x ≠ none := fun x z => r2.dom x (.inl z)
  have ef : Eff F2 H1 ([a] ++ []) F2 (upd H1 a (.dK (putK kk (Sum.inl k) v))) ([a] ++ []) := ⟨fun x o q n => by rw [upd_ne fun z => n (by rw [z]; simp)]; exact q, fun _ z => z, fun _ z => .inl z, fun x hx => ⟨.inr hx, (by have : x = a := (by simpa using hx); subst this; exact nF)⟩, by simp, fun x z => upd_some (hdm x z), fun x vs q => by rw [upd_ne fun z => by rw [z, hH] at q; cases q]; exact q⟩
  have g4 := ef.growF r4
  have r5 := RelX.put' (A := [a]) (B := []) (i := i) (d := kdic (putKD es k dy)) (n := 1) (ef.rel r4) (by exact e2) (.inr (.inr (.inl ⟨_, a, _, rfl, rfl, upd_same, rfl, RepK.enc (pk_put k (pt.mono g4) (rp.mono g4))⟩)))
  rw [List.set_set] at r5
  refine ⟨a, _, rfl, DPut.k (k := Sum.inl k) hH (by rw [pt.length, line_eq]; exact z1), hy σ _ F2 SK.refl ((st.trans st2).trans (ef.step r4)) r5 ?_⟩
  rw [List.length_set]
  exact l1
/-! ### a comprehension over such a dict, which stands at a name -/
def freezeK (i : Nat) (ρ : Env') : Option (List D × Env') := (kAt (getS ρ i)).map fun es => (keysKD es, ρ.set i (some (kdic es, 0)))
theorem de_lcK (i : Nat) {tg elt : Expr} {ifs : List Expr} {scope : Scope} {own : List (Str × Nat)} {x : Str} {p : Pos} {ws : List Nat} {g : D → Nat → Env' → Res Env'} {c : Env' → Res (Bool × Env')} {f : Env' → Res (D × Nat × Env')} (hc : X.calm = true) (hN : X.N.Nodup) (ok : BlkOk X.N X.env.scope scope own)
    (hg : ∀ (s : Shared) (H : Hp) (C : Addr) (cl : List (Str × Addr)) (fp : List Addr), DG (X.blk s H scope (compEnvC scope cl C X.env) fp) tg ws g) (ht : ∀ (s : Shared) (H : Hp) (C : Addr) (cl : List (Str × Addr)) (fp : List Addr), DTs (X.blk s H scope (compEnvC scope cl C X.env) fp) E00 ifs c)
    (he : ∀ (s : Shared) (H : Hp) (C : Addr) (cl : List (Str × Addr)) (fp : List Addr), DE (X.blk s H scope (compEnvC scope cl C X.env) fp) E00 elt f) (hNi : X.N[i]? = some x := by rfl) (hx : Vis X.env.scope x := by first | exact Or.inl rfl | exact Or.inr (Or.inl rfl) | exact Or.inr (Or.inr rfl)) (hd : (x == ("__debug__" : Str)) = false := by decide) (hcd : (x == ("__classdict__" : Str)) = false := by decide) (hw : ∀ i ∈ ws, i ∈ own.map (·.2) := by decide) (hs : ∀ y, foldedSetIterable (.Name x p) X.env y = pure y := by intro _; rfl) :
    DE X E (.ListComp elt [⟨tg, .Name x p, ifs, 0⟩] scope pos) (lcF (fun ρ => liftO (freezeK i ρ)) g c f (own.map (·.2))) := by
  refine ⟨_, pe_lock (pe_lc (g := canG X ws g) (tt := canT X E00 c) (te := canE X E00 f) hc hN (pi_keys (pe_var hNi hx hd hcd)) ok (fun s H C cl fp => (hg s H C cl fp).can) (fun s H C cl fp => (ht s H C cl fp).can) (fun s H C cl fp => (he s H C cl fp).can) hs), fun ρ F P σ H Q hl r h => ?_⟩
  unfold lcF at h
  dsimp only at h
  unfold freezeK at h
  cases hta : kAt (getS ρ i) with
  | none => rw [hta] at h; exact h.elim
  | some es =>
  rw [hta] at h
  simp only [Option.map_some, liftO, bind_ok] at h
  obtain ⟨d1, hg1, hd1⟩ := kAt_some hta
  obtain ⟨v0, C, e1, o, r1⟩ := r.take (getS_some hg1)
  obtain ⟨a, kk, rfl, hH, rfl, pt⟩ := kOf_own hd1 o
  have nFP : ¬ F a ∧ ¬ P a := r1.2.2.2.elim fun w q => (q.2.2 a (by simp)).2
  refine ⟨a, _, hH, trivial, fun od => ?_⟩
  have hdm : ∀ x, F x → H x ≠ none := fun x z => r.dom x (.inl z)
  have ef : Eff F H ([a] ++ []) (fun x => F x ∨ x = a) (upd H a (.frz od (.dK kk))) [] := ⟨fun x o q n => by rw [upd_ne fun z => n (by rw [z]; simp)]; exact q, fun _ z => .inl z, fun x z => z.imp id fun z => .inr (by simp [z]), fun x hx => (by cases hx), List.nodup_nil, fun x z => z.elim (fun z => upd_some (hdm x z)) fun z => (by rw [z, upd_same]; exact fun z => by cases z), fun x vs q => by rw [upd_ne fun z => by rw [z, hH] at q; cases q]; exact q⟩
  have g4 := ef.growF r1
  have pt' := pt.mono g4
  have r2 := RelX.put' (A := []) (B := []) (i := i) (d := kdic es) (n := 0) (ef.rel r1) (by exact e1) ⟨rfl, .dK (.inr rfl) (.inr ⟨od, upd_same⟩) (RepK.enc pt')⟩
  rw [List.set_set] at r2
  refine ⟨_, e1, a, od, rfl, .inl ⟨kk, upd_same, ?_⟩⟩
  show tLc (fun _ H1 R => R (Itk a od kk) H1) (canG X ws g) (canT X E00 c) (canE X E00 f) (own.map (·.2)) σ (upd H a (.frz od (.dK kk))) fun v H' => H' a = some (.frz od (.dK kk)) ∧ Q v (upd H' a (.dK kk))
  refine lc_from (E := E) (q := (keysKD es, ρ.set i (some (kdic es, 0)))) hw (by show (ρ.set i (some (kdic es, 0))).length = _; rw [List.length_set]; exact hl) r2 Step.refl r2 (it_keysK (.inr rfl) upd_same pt') ?_
  have stA := ef.step r1
  have key : ∀ {q : D × Nat × Env'}, (∀ v H' F' A, Step F P H F' H' → RelX X.K F' P q.2.2 σ H' A → Own X.K F' H' q.2.1 q.1 v A → Q v H') → ∀ v H' F' A, Step (fun x => F x ∨ x = a) P (upd H a (.frz od (.dK kk))) F' H' → RelX X.K F' P q.2.2 σ H' A → Own X.K F' H' q.2.1 q.1 v A → H' a = some (.frz od (.dK kk)) ∧ Q v (upd H' a (.dK kk)) := fun {q} hq v H' F' A st r' o' => by
    have ha : H' a = some (.frz od (.dK kk)) := ((st.grow.at_ a (.inr rfl)).2).trans upd_same
    exact ⟨ha, hq v _ F' A (Step.unlock hH (fun vs z => by cases z) nFP.1 nFP.2 (stA.trans st)) (r'.unlock ha) (o'.rd (unlock_rd ha) (unlock_get ha))⟩
  split at h
  · rename_i hz
    rw [if_pos hz]
    cases hcf : compF g c f (own.map (·.2)) (keysKD es) (wipeD (ρ.set i (some (kdic es, 0))) (own.map (·.2))) with
    | stuck => rw [hcf] at h; exact h.elim
    | exc y z => exact (compF_no hcf).elim
    | ok w => rw [hcf] at h; exact key h
  · exact h.elim
end
end DL

namespace DL
open PySem PySem.Spec PyProof.Rows L2
@[simp] def dicK : EF := fun ρ => .ok (kdic [], 1, ρ)
section
variable {X : Cx} {E : Exs} {pos : Pos}
/-! ### name[k] = value, k of a call, value no list -/
def gSetE (i : Nat) (fi : EF) : D → Nat → Env' → Res Env' := fun d n ρ => if still d = true ∧ (getS ρ i).isSome = true then fi ρ >>= fun k => liftO ((getS k.2.2 i).bind fun x => (isI k.1).bind fun j => setD x j (d, n)) >>= fun x => .ok (k.2.2.set i (some x)) else .stuck
theorem dg_subE (i : Nat) {x : Str} {p : Pos} {ix : Expr} {fi : EF} (hx : DE X E00 ix fi) (hN : X.N[i]? = some x := by rfl) (hv : Vis X.env.scope x := by first | exact Or.inl rfl | exact Or.inr (Or.inl rfl) | exact Or.inr (Or.inr rfl)) (hd : (x == ("__debug__" : Str)) = false := by decide) (hcd : (x == ("__classdict__" : Str)) = false := by decide)
    (ha : ∀ v, assign (.Subscript (.Name x p) ix pos) X.env v = (do
      let ov ← holding [v] (eval (.Name x p) X.env)
      let iv ← holding [v, ov] (eval ix X.env)
      standAt pos
      holding [v, ov, iv] (setItem ov iv v)
      release [v, ov, iv] []) := by intro _; rfl) : DG X (.Subscript (.Name x p) ix pos) [] (gSetE i fi) := by
  obtain ⟨t, pe, qe⟩ := hx
  refine ⟨_, pg_sub (pe_var hN hv hd hcd) pe set_list ha, fun ρ ρ' F P σ H v d n A Q hl r o e q => ?_⟩
  unfold gSetE at e
  split at e
  case isFalse => cases e
  rename_i h0
  obtain ⟨hst, hsl⟩ := h0
  obtain ⟨rfl, rv⟩ := own_still o hst
  obtain ⟨x0, hg0⟩ := Option.isSome_iff_exists.mp hsl
  obtain ⟨v', C0, e2, _, _⟩ := r.slot (getS_some hg0)
  refine ⟨v', e2, qe ρ F P σ H _ hl r ?_⟩
  cases hfi : fi ρ with
  | stuck => rw [hfi] at e; cases e
  | exc y z => rw [hfi] at e; cases e
  | ok c =>
  rw [hfi] at e
  obtain ⟨dk, nk, ρ1⟩ := c
  intro u H1 F1 A1 st r1 o1
  simp only [bind_ok] at e
  cases hg : getS ρ1 i with
  | none => rw [hg] at e; cases e
  | some x1 =>
  rw [hg] at e
  simp only [Option.bind_some] at e
  cases dk <;> try (cases e; done)
  rename_i j
  simp only [isI, Option.bind_some] at e
  cases hp : setD x1 j (d, n) with
  | none => rw [hp] at e; cases e
  | some x' =>
  rw [hp] at e
  simp only [liftO, bind_ok] at e
  cases e
  obtain ⟨d1, n1⟩ := x1
  cases d1 <;> try (simp only [setD] at hp; cases hp)
  rename_i ds
  simp only [setD] at hp
  cases hk : ixN ds.length j with
  | none => rw [hk] at hp; cases hp
  | some k =>
  rw [hk] at hp
  simp only [Option.bind_some] at hp
  by_cases z1 : n1 = 1
  · subst z1
    rw [if_pos rfl] at hp
    cases hp
    obtain ⟨rfl, _⟩ := own_still o1 rfl
    obtain ⟨v2, C, e3, o2, _⟩ := r1.slot (getS_some hg)
    rw [e2] at e3
    cases e3
    obtain ⟨a, vs, ea, hH, lr⟩ := own1_rep o2
    subst ea
    obtain ⟨F2, st2, r2, g2⟩ := slot_write (d := d) (n := 0) (w := v) (es := ds.set k d) (us := vs.set k v) r1 ⟨rfl, rv.mono st.grow⟩ (getS_some hg) e2 hH fun F' H' g rp l => l.set k rp
    exact ⟨a, vs, j, k, rfl, own_int o1, hH, by rw [lr.length]; exact hk, q σ F2 _ ⟨rfl, fun _ _ => rfl⟩ (st.trans st2) r2⟩
  · rw [if_neg z1] at hp; cases hp
/-! ### name and what is drawn, the name's value left where it is -/
def d2V (i : Nat) (fk : EF) : D2F := fun ρ => if (getS ρ i).isSome = true then fk ρ >>= fun k => liftO (getS k.2.2 i) >>= fun x => .ok (x, (k.1, k.2.1), k.2.2) else .stuck
theorem n_d2V (i : Nat) {x : Str} {p : Pos} {b : Expr} {fk : EF} (hk : DE X E b fk) (hN : X.N[i]? = some x := by rfl) (hv : Vis X.env.scope x := by first | exact Or.inl rfl | exact Or.inr (Or.inl rfl) | exact Or.inr (Or.inr rfl)) (hd : (x == ("__debug__" : Str)) = false := by decide) (hcd : (x == ("__classdict__" : Str)) = false := by decide) :
    D2 X E (.Name x p) b (d2V i fk) := by
  obtain ⟨t, pe, qe⟩ := hk
  refine ⟨_, _, pe_var hN hv hd hcd, pe, fun ρ F P σ H R hl r h => ?_⟩
  unfold d2V at h
  split at h
  case isFalse => exact h.elim
  rename_i h0
  obtain ⟨x0, hg0⟩ := Option.isSome_iff_exists.mp h0
  obtain ⟨v0, B0, e1, _, _⟩ := r.slot (getS_some hg0)
  refine ⟨v0, e1, qe ρ F P σ H _ hl r (h.bind.same fun k hk u H1 F1 A st r1 o => ?_)⟩
  obtain ⟨dk, nk, ρ1⟩ := k
  simp only at hk r1 o
  cases hg : getS ρ1 i with
  | none => rw [hg] at hk; exact hk.elim
  | some y =>
  rw [hg] at hk
  obtain ⟨v, B, e2, o2, _⟩ := r1.slot (getS_some hg)
  rw [e1] at e2
  cases e2
  exact hk v0 u H1 F1 B A st r1.drop o2 o
end
end DL

/-! the typed layer: what the answers of the data layer are on encoded values, without flags and slots -/
namespace TL
open PySem PySem.Spec PyProof.Rows L2 DL
section
variable {α β γ δ : Type}
/-- a claim that nothing works out: the kernel is not to count to its numbers -/
def Hd (p : Prop) : Prop := p
noncomputable instance (p : Prop) : Decidable (Hd p) := Classical.propDecidable _
theorem hd {p : Prop} (h : p) : Hd p := h
/-- short lists -/
def Sh {α : Type} (xs : List α) : Prop := xs.length ≤ 16777216
def Sl {α : Type} (xs : List α) : Prop := xs.length < 16777216
noncomputable instance {α : Type} (xs : List α) : Decidable (Sh xs) := Classical.propDecidable _
noncomputable instance {α : Type} (xs : List α) : Decidable (Sl xs) := Classical.propDecidable _
theorem hd_len {α : Type} {xs : List α} (h : xs.length ≤ 1000000) : Sh xs := by show _ ≤ _; omega
theorem hd_lt {α : Type} {xs : List α} (h : xs.length < 1000000) : Sl xs := by show _ < _; omega
/-! encoders -/
@[reducible] def eI : Int → D := PyData.int
@[reducible] def eB : Bool → D := PyData.bool
@[reducible] def eU : Unit → D := fun _ => .none
@[reducible] def eS : Str → D := PyData.str
@[reducible] def eD : D → D := fun d => d
def eL (e : α → D) (xs : List α) : D := .list (xs.map e)
def eT (e : α → D) (xs : List α) : D := .tuple (xs.map e)
def eP (e : α → D) (f : β → D) (p : α × β) : D := .tuple [e p.1, f p.2]
def eP3 (e : α → D) (f : β → D) (g : γ → D) (p : α × β × γ) : D := .tuple [e p.1, f p.2.1, g p.2.2]
def eP4 (e : α → D) (f : β → D) (g : γ → D) (h : δ → D) (p : α × β × γ × δ) : D := .tuple [e p.1, f p.2.1, g p.2.2.1, h p.2.2.2]
def eO (e : α → D) : Option α → D
  | none => .none
  | some a => e a
/-- nothing at the top that may be changed -/
def Still (e : α → D) : Prop := ∀ a, still (e a) = true
theorem st_I : Still eI := fun _ => rfl
theorem st_B : Still eB := fun _ => rfl
theorem st_U : Still eU := fun _ => rfl
theorem st_S : Still eS := fun _ => rfl
theorem st_T {e : α → D} : Still (eT e) := fun _ => rfl
theorem st_P {e : α → D} {f : β → D} : Still (eP e f) := fun _ => rfl
theorem st_P3 {e : α → D} {f : β → D} {g : γ → D} : Still (eP3 e f g) := fun _ => rfl
theorem st_P4 {e : α → D} {f : β → D} {g : γ → D} {h : δ → D} : Still (eP4 e f g h) := fun _ => rfl
theorem st_O {e : α → D} (h : Still e) : Still (eO e) := fun a => match a with
  | none => rfl
  | some a => h a
/-- data that are compared -/
structure Ok (e : α → D) (n : Nat) : Prop where
  lay : ∀ a, Lay n (e a)
  eqv : ∀ a b, PyData.eqv (e a) (e b) = true ↔ a = b
theorem ok_I : Ok eI 0 := ⟨fun a => lay_int a, fun a b => by rw [eqv_int]; simp⟩
theorem ok_B : Ok eB 0 := ⟨fun a => lay_bool a, fun a b => by rw [eqv_bool]; simp⟩
theorem ok_U : Ok eU 0 := ⟨fun a => lay_none, fun a b => by simp [PyData.eqv]⟩
theorem eqvAll_ok {e : α → D} {n : Nat} (h : Ok e n) : ∀ xs ys : List α, PyData.eqvAll (xs.map e) (ys.map e) = true ↔ xs = ys
  | [], [] => by simp [PyData.eqvAll]
  | [], _ :: _ => by simp [PyData.eqvAll]
  | _ :: _, [] => by simp [PyData.eqvAll]
  | x :: xs, y :: ys => by
    rw [List.map_cons, List.map_cons, PyData.eqvAll, Bool.and_eq_true, h.eqv, eqvAll_ok h xs ys, List.cons.injEq]
theorem lay_map {e : α → D} {n : Nat} (h : Ok e n) (xs : List α) : ∀ d ∈ xs.map e, Lay n d := fun d hd => by
  obtain ⟨a, _, rfl⟩ := List.mem_map.mp hd
  exact h.lay a
theorem ok_L {e : α → D} {n : Nat} (h : Ok e n) : Ok (eL e) (n + 1) := ⟨fun a => lay_list (lay_map h a), fun a b => by
  show PyData.eqv (.list _) (.list _) = true ↔ _
  rw [PyData.eqv, eqvAll_ok h]⟩
theorem ok_T {e : α → D} {n : Nat} (h : Ok e n) : Ok (eT e) (n + 1) := ⟨fun a => lay_tuple (lay_map h a), fun a b => by
  show PyData.eqv (.tuple _) (.tuple _) = true ↔ _
  rw [PyData.eqv, eqvAll_ok h]⟩
theorem ok_P {e : α → D} {f : β → D} {n : Nat} (h : Ok e n) (k : Ok f n) : Ok (eP e f) (n + 1) := ⟨fun a => lay_tuple fun d hd => by
    simp only [List.mem_cons, List.not_mem_nil, or_false] at hd
    rcases hd with rfl | rfl
    · exact h.lay _
    · exact k.lay _, fun a b => by
  show PyData.eqv (.tuple _) (.tuple _) = true ↔ _
  simp only [PyData.eqv, PyData.eqvAll, Bool.and_eq_true, h.eqv, k.eqv, and_true]
  exact ⟨fun z => Prod.ext z.1 z.2, fun z => by rw [z]; exact ⟨rfl, rfl⟩⟩⟩
theorem ok_P3 {e : α → D} {f : β → D} {g : γ → D} {n : Nat} (h : Ok e n) (k : Ok f n) (l : Ok g n) : Ok (eP3 e f g) (n + 1) := ⟨fun a => lay_tuple fun d hd => by
    simp only [List.mem_cons, List.not_mem_nil, or_false] at hd
    rcases hd with rfl | rfl | rfl
    · exact h.lay _
    · exact k.lay _
    · exact l.lay _, fun a b => by
  show PyData.eqv (.tuple _) (.tuple _) = true ↔ _
  simp only [PyData.eqv, PyData.eqvAll, Bool.and_eq_true, h.eqv, k.eqv, l.eqv, and_true]
  exact ⟨fun z => Prod.ext z.1 (Prod.ext z.2.1 z.2.2), fun z => by rw [z]; exact ⟨rfl, rfl, rfl⟩⟩⟩
theorem Ok.up {e : α → D} {n m : Nat} (h : Ok e n) (k : n ≤ m) : Ok e m := ⟨fun a => (h.lay a).up k, h.eqv⟩
theorem Ok.dec [DecidableEq α] {e : α → D} {n : Nat} (h : Ok e n) (a b : α) : PyData.eqv (e a) (e b) = decide (a = b) := by
  have := h.eqv a b
  by_cases z : a = b
  · rw [decide_eq_true z]; exact this.mpr z
  · rw [decide_eq_false z]
    cases q : PyData.eqv (e a) (e b)
    · rfl
    · exact absurd (this.mp q) z

/-! slots -/
abbrev ER (σ : Type) := σ → Env' → Prop
end
section
variable {σ σ' σ1 σ2 α β γ : Type} {R : ER σ} {R' : ER σ'} {e : α → D} {lo hi lo' hi' : Nat} {i : Nat}
def Rn : ER Unit := fun _ _ => True
def Ra (R : ER σ) : ER σ := fun s ρ => ∃ x ρ', ρ = x :: ρ' ∧ R s ρ'
def Rv (e : α → D) (lo hi : Nat) (R : ER σ) : ER (α × σ) := fun s ρ => ∃ n ρ', ρ = some (e s.1, n) :: ρ' ∧ lo ≤ n ∧ n ≤ hi ∧ R s.2 ρ'
structure Get (R : ER σ) (i : Nat) (g : σ → α) (e : α → D) (lo hi : Nat) : Prop where
  get : ∀ s ρ, R s ρ → ∃ n, getS ρ i = some (e (g s), n) ∧ lo ≤ n ∧ n ≤ hi
theorem g0 : Get (Rv e lo hi R) 0 (fun s => s.1) e lo hi := ⟨fun s ρ ⟨n, ρ', h, a, b, _⟩ => ⟨n, by rw [h]; exact getS_zero, a, b⟩⟩
theorem ga {g : σ → α} (h : Get R i g e lo hi) : Get (Ra R) (i + 1) g e lo hi := ⟨fun s ρ ⟨x, ρ', q, r⟩ => by
  obtain ⟨n, a, b⟩ := h.get s ρ' r
  exact ⟨n, by rw [q, getS_succ]; exact a, b⟩⟩
theorem gv {f : β → D} {k l : Nat} {g : σ → α} (h : Get R i g e lo hi) : Get (Rv f k l R) (i + 1) (fun s => g s.2) e lo hi := ⟨fun s ρ ⟨x, ρ', q, _, _, r⟩ => by
  obtain ⟨n, a, b⟩ := h.get s.2 ρ' r
  exact ⟨n, by rw [q, getS_succ]; exact a, b⟩⟩
structure Put (R : ER σ) (i : Nat) (e : α → D) (lo hi : Nat) (p : α → σ → σ') (R' : ER σ') : Prop where
  put : ∀ s ρ a n, R s ρ → lo ≤ n → n ≤ hi → R' (p a s) (ρ.set i (some (e a, n)))
theorem p0v {f : β → D} {k l : Nat} : Put (Rv f k l R) 0 e lo hi (fun a s => (a, s.2)) (Rv e lo hi R) := ⟨fun s ρ a n ⟨x, ρ', q, _, _, r⟩ h1 h2 => ⟨n, ρ', by rw [q]; rfl, h1, h2, r⟩⟩
theorem p0a : Put (Ra R) 0 e lo hi (fun a s => (a, s)) (Rv e lo hi R) := ⟨fun s ρ a n ⟨x, ρ', q, r⟩ h1 h2 => ⟨n, ρ', by rw [q]; rfl, h1, h2, r⟩⟩
theorem pa {p : α → σ → σ'} (h : Put R i e lo hi p R') : Put (Ra R) (i + 1) e lo hi p (Ra R') := ⟨fun s ρ a n ⟨x, ρ', q, r⟩ h1 h2 => ⟨x, ρ'.set i _, by rw [q]; rfl, h.put s ρ' a n r h1 h2⟩⟩
theorem pv {f : β → D} {k l : Nat} {p : α → σ → σ'} (h : Put R i e lo hi p R') : Put (Rv f k l R) (i + 1) e lo hi (fun a s => (s.1, p a s.2)) (Rv f k l R') := ⟨fun s ρ a n ⟨x, ρ', q, q1, q2, r⟩ h1 h2 => ⟨x, ρ'.set i _, by rw [q]; rfl, q1, q2, h.put s.2 ρ' a n r h1 h2⟩⟩
structure Drp (R : ER σ) (i : Nat) (p : σ → σ') (R' : ER σ') : Prop where
  drp : ∀ s ρ x, R s ρ → R' (p s) (ρ.set i x)
theorem r0v {f : β → D} {k l : Nat} : Drp (Rv f k l R) 0 (fun s => s.2) (Ra R) := ⟨fun s ρ x ⟨y, ρ', q, _, _, r⟩ => ⟨x, ρ', by rw [q]; rfl, r⟩⟩
theorem r0a : Drp (Ra R) 0 (fun s => s) (Ra R) := ⟨fun s ρ x ⟨y, ρ', q, r⟩ => ⟨x, ρ', by rw [q]; rfl, r⟩⟩
theorem ra {p : σ → σ'} (h : Drp R i p R') : Drp (Ra R) (i + 1) p (Ra R') := ⟨fun s ρ x ⟨y, ρ', q, r⟩ => ⟨y, ρ'.set i x, by rw [q]; rfl, h.drp s ρ' x r⟩⟩
theorem rv {f : β → D} {k l : Nat} {p : σ → σ'} (h : Drp R i p R') : Drp (Rv f k l R) (i + 1) (fun s => (s.1, p s.2)) (Rv f k l R') := ⟨fun s ρ x ⟨y, ρ', q, q1, q2, r⟩ => ⟨y, ρ'.set i x, by rw [q]; rfl, q1, q2, h.drp s.2 ρ' x r⟩⟩
structure Frz (R : ER σ) (i : Nat) (g : σ → α) (e : α → D) (R' : ER σ) : Prop where
  frz : ∀ s ρ, R s ρ → ∃ n, getS ρ i = some (e (g s), n) ∧ R' s (if n = 0 then ρ else ρ.set i (some (e (g s), 0)))
theorem f0 : Frz (Rv e lo hi R) 0 (fun s => s.1) e (Rv e 0 0 R) := ⟨fun s ρ ⟨n, ρ', h, a, b, r⟩ => ⟨n, by rw [h]; exact getS_zero, by
  by_cases z : n = 0
  · subst z; exact ⟨0, ρ', by rw [if_pos rfl, h], Nat.le_refl _, Nat.le_refl _, r⟩
  · exact ⟨0, ρ', by rw [if_neg z, h]; rfl, Nat.le_refl _, Nat.le_refl _, r⟩⟩⟩
theorem fa {g : σ → α} {R' : ER σ} (h : Frz R i g e R') : Frz (Ra R) (i + 1) g e (Ra R') := ⟨fun s ρ ⟨x, ρ', q, r⟩ => by
  obtain ⟨n, a, b⟩ := h.frz s ρ' r
  refine ⟨n, by rw [q, getS_succ]; exact a, x, _, ?_, b⟩
  rw [q]
  by_cases z : n = 0
  · rw [if_pos z, if_pos z]
  · rw [if_neg z, if_neg z]; rfl⟩
theorem fv {f : β → D} {k l : Nat} {g : σ → α} {R' : ER σ} (h : Frz R i g e R') : Frz (Rv f k l R) (i + 1) (fun s => g s.2) e (Rv f k l R') := ⟨fun s ρ ⟨x, ρ', q, q1, q2, r⟩ => by
  obtain ⟨n, a, b⟩ := h.frz s.2 ρ' r
  refine ⟨n, by rw [q, getS_succ]; exact a, x, _, ?_, q1, q2, b⟩
  rw [q]
  by_cases z : n = 0
  · rw [if_pos z, if_pos z]
  · rw [if_neg z, if_neg z]; rfl⟩
structure Wk (R : ER σ) (p : σ → σ') (R' : ER σ') : Prop where
  wk : ∀ s ρ, R s ρ → R' (p s) ρ
theorem wn : Wk Rn (fun s => s) Rn := ⟨fun _ _ _ => trivial⟩
theorem wt {R : ER σ} : Wk R (fun _ => ()) Rn := ⟨fun _ _ _ => trivial⟩
theorem wi {R : ER σ} : Wk R (fun s => s) R := ⟨fun _ _ h => h⟩
theorem wa {p : σ → σ'} (h : Wk R p R') : Wk (Ra R) p (Ra R') := ⟨fun s ρ ⟨x, ρ', q, r⟩ => ⟨x, ρ', q, h.wk s ρ' r⟩⟩
theorem wd {p : σ → σ'} (h : Wk R p R') : Wk (Rv e lo hi R) (fun s => p s.2) (Ra R') := ⟨fun s ρ ⟨x, ρ', q, _, _, r⟩ => ⟨_, ρ', q, h.wk s.2 ρ' r⟩⟩
theorem wv {p : σ → σ'} (h : Wk R p R') (h1 : lo' ≤ lo := by decide) (h2 : hi ≤ hi' := by decide) : Wk (Rv e lo hi R) (fun s => (s.1, p s.2)) (Rv e lo' hi' R') := ⟨fun s ρ ⟨x, ρ', q, a, b, r⟩ => ⟨x, ρ', q, Nat.le_trans h1 a, Nat.le_trans b h2, h.wk s.2 ρ' r⟩⟩
theorem wm {f : β → D} {m : α → β} {p : σ → σ'} (hm : ∀ a, e a = f (m a)) (h : Wk R p R') (h1 : lo' ≤ lo := by decide) (h2 : hi ≤ hi' := by decide) : Wk (Rv e lo hi R) (fun s => (m s.1, p s.2)) (Rv f lo' hi' R') := ⟨fun s ρ ⟨x, ρ', q, a, b, r⟩ => ⟨x, ρ', by rw [q, hm], Nat.le_trans h1 a, Nat.le_trans b h2, h.wk s.2 ρ' r⟩⟩
end

/-! expressions that change nothing: the places -/
section
variable {σ σ' α β γ τ τ' : Type} {R R1 R2 R3 : ER σ} {e : α → D} {f : β → D} {h : γ → D} {lo hi lo' hi' k1 k2 k3 : Nat} {i : Nat}
structure TP (R : ER σ) (f : PF) (e : α → D) (hi : Nat) (F : σ → Option α) : Prop where
  ex : ∀ s ρ, R s ρ → ∀ a, F s = some a → ∃ n, f ρ = some (e a, n) ∧ n ≤ hi
@[simp] def tV (g : σ → α) : σ → Option α := fun s => some (g s)
@[simp] def tK (a : α) : σ → Option α := fun _ => some a
@[simp] def tOp1 (o : α → Option β) (F : σ → Option α) : σ → Option β := fun s => (F s).bind o
@[simp] def tOp2 (o : α → β → Option γ) (F : σ → Option α) (G : σ → Option β) : σ → Option γ := fun s => (F s).bind fun a => (G s).bind fun b => o a b
theorem tp_v {g : σ → α} (q : Get R i g e lo hi) : TP R (vP i) e hi (tV g) := ⟨fun s ρ r a ha => by
  obtain ⟨n, a1, _, a3⟩ := q.get s ρ r
  cases ha
  exact ⟨n, a1, a3⟩⟩
theorem tp_k {d : D} {a : α} (q : d = e a := by rfl) : TP R (kP d) e 0 (tK a) := ⟨fun s ρ r x hx => by cases hx; exact ⟨0, by rw [q]; rfl, Nat.le_refl _⟩⟩
theorem bind_some' {α β : Type} {x : Option α} {g : α → Option β} {b : β} (z : x.bind g = some b) : ∃ a, x = some a ∧ g a = some b := by
  cases x with
  | none => cases z
  | some a => exact ⟨a, rfl, z⟩
structure Op2 (g : D → D → Option D) (e : α → D) (f : β → D) (h : γ → D) (o : α → β → Option γ) : Prop where
  op : ∀ a b c, o a b = some c → g (e a) (f b) = some (h c)
theorem tp_bin {g : D → D → Option D} {o : α → β → Option γ} {f1 f2 : PF} {F : σ → Option α} {G : σ → Option β} (q : Op2 g e f h o) (a : TP R f1 e k1 F) (b : TP R f2 f k2 G) : TP R (binP g f1 f2) h 0 (tOp2 o F G) := ⟨fun s ρ r c hc => by
  obtain ⟨x, hx, hc⟩ := bind_some' hc
  obtain ⟨y, hy, hc⟩ := bind_some' hc
  obtain ⟨n, a1, _⟩ := a.ex s ρ r x hx
  obtain ⟨m, b1, _⟩ := b.ex s ρ r y hy
  exact ⟨0, by simp [a1, b1, q.op x y c hc], Nat.le_refl _⟩⟩
structure Op1 (g : List (D × Nat) → Option D) (e : α → D) (h : γ → D) (o : α → Option γ) : Prop where
  op : ∀ a n c, o a = some c → g [(e a, n)] = some (h c)
structure Op11 (g : List (D × Nat) → Option D) (e : α → D) (f : β → D) (h : γ → D) (o : α → β → Option γ) : Prop where
  op : ∀ a n b m c, o a b = some c → g [(e a, n), (f b, m)] = some (h c)
theorem tp_c1 {g : List (D × Nat) → Option D} {o : α → Option γ} {f1 : PF} {F : σ → Option α} (q : Op1 g e h o) (a : TP R f1 e k1 F) : TP R (callP g (consP f1 nilP)) h 0 (tOp1 o F) := ⟨fun s ρ r c hc => by
  obtain ⟨x, hx, hc⟩ := bind_some' hc
  obtain ⟨n, a1, _⟩ := a.ex s ρ r x hx
  exact ⟨0, by simp [a1, q.op x n c hc], Nat.le_refl _⟩⟩
theorem tp_c2 {g : List (D × Nat) → Option D} {o : α → β → Option γ} {f1 f2 : PF} {F : σ → Option α} {G : σ → Option β} (q : Op11 g e f h o) (a : TP R f1 e k1 F) (b : TP R f2 f k2 G) : TP R (callP g (consP f1 (consP f2 nilP))) h 0 (tOp2 o F G) := ⟨fun s ρ r c hc => by
  obtain ⟨x, hx, hc⟩ := bind_some' hc
  obtain ⟨y, hy, hc⟩ := bind_some' hc
  obtain ⟨n, a1, _⟩ := a.ex s ρ r x hx
  obtain ⟨m, b1, _⟩ := b.ex s ρ r y hy
  exact ⟨0, by simp [a1, b1, q.op x n y m c hc], Nat.le_refl _⟩⟩
/-! items -/
def tIx (xs : List α) (i : Int) : Option α := (ixN xs.length i).bind fun k => xs[k]?
theorem atI_map (xs : List α) (i : Int) (a : α) (q : tIx xs i = some a) : atI (xs.map e) i = some (e a) := by
  unfold tIx at q
  unfold atI
  obtain ⟨k, h1, h2⟩ := bind_some' q
  rw [List.length_map, h1]
  show (xs.map e)[k]? = _
  rw [List.getElem?_map, h2]
  rfl
theorem tp_ixL {f1 f2 : PF} {F : σ → Option (List α)} {G : σ → Option Int} (a : TP R f1 (eL e) k1 F) (b : TP R f2 eI k2 G) : TP R (ixP f1 f2) e (k1 - 1) (tOp2 tIx F G) := ⟨fun s ρ r c hc => by
  obtain ⟨x, hx, hc⟩ := bind_some' hc
  obtain ⟨y, hy, hc⟩ := bind_some' hc
  obtain ⟨n, a1, a2⟩ := a.ex s ρ r x hx
  obtain ⟨m, b1, _⟩ := b.ex s ρ r y hy
  exact ⟨n - 1, by simp [a1, b1, eL, eI, ixD, atI_map x y c hc], by omega⟩⟩
theorem tp_ixT {f1 f2 : PF} {F : σ → Option (List α)} {G : σ → Option Int} (a : TP R f1 (eT e) k1 F) (b : TP R f2 eI k2 G) : TP R (ixP f1 f2) e 0 (tOp2 tIx F G) := ⟨fun s ρ r c hc => by
  obtain ⟨x, hx, hc⟩ := bind_some' hc
  obtain ⟨y, hy, hc⟩ := bind_some' hc
  obtain ⟨n, a1, a2⟩ := a.ex s ρ r x hx
  obtain ⟨m, b1, _⟩ := b.ex s ρ r y hy
  exact ⟨0, by simp [a1, b1, eT, eI, ixD, atI_map x y c hc], Nat.le_refl _⟩⟩
/-- a field of a display: k-th of the parts -/
theorem tp_ixC {ε : Type} {E : ε → D} {f1 : PF} {F : σ → Option ε} {g : ε → α} {j : Int} (a : TP R f1 E k1 F) (q : ∀ x, ∃ ds, E x = .tuple ds ∧ atI ds j = some (e (g x)) := by exact fun _ => ⟨_, rfl, rfl⟩) : TP R (ixP f1 (kP (.int j))) e 0 (tOp1 (fun x => some (g x)) F) := ⟨fun s ρ r c hc => by
  obtain ⟨x, hx, hc⟩ := bind_some' hc
  cases hc
  obtain ⟨n, a1, a2⟩ := a.ex s ρ r x hx
  obtain ⟨ds, q1, q2⟩ := q x
  exact ⟨0, by simp [a1, q1, ixD, q2], Nat.le_refl _⟩⟩
theorem tp_neg {f1 : PF} {F : σ → Option Int} (a : TP R f1 eI k1 F) : TP R (negP f1) eI 0 (tOp1 (fun x => some (-x)) F) := ⟨fun s ρ r c hc => by
  obtain ⟨x, hx, hc⟩ := bind_some' hc
  obtain ⟨n, a1, a2⟩ := a.ex s ρ r x hx
  cases hc
  exact ⟨0, by simp [a1, eI, negD], Nat.le_refl _⟩⟩
/-- a < b < c -/
@[simp] def tCh (o : α → β → Option Bool) (o' : β → γ → Option Bool) (F : σ → Option α) (G : σ → Option β) (H : σ → Option γ) : σ → Option Bool := fun s => (F s).bind fun a => (G s).bind fun b => (H s).bind fun c => (o a b).bind fun k => if k = true then o' b c else some false
theorem tp_chn {g g' : D → D → Option D} {o : α → β → Option Bool} {o' : β → γ → Option Bool} {f1 f2 f3 : PF} {F : σ → Option α} {G : σ → Option β} {H : σ → Option γ} (q : Op2 g e f eB o) (q' : Op2 g' f h eB o') (a : TP R f1 e k1 F) (b : TP R f2 f k2 G) (c : TP R f3 h k3 H) : TP R (chnP g g' f1 f2 f3) eB 0 (tCh o o' F G H) := ⟨fun s ρ r d hd => by
  obtain ⟨x, hx, hd⟩ := bind_some' hd
  obtain ⟨y, hy, hd⟩ := bind_some' hd
  obtain ⟨z, hz, hd⟩ := bind_some' hd
  obtain ⟨k, hk, hd⟩ := bind_some' hd
  obtain ⟨n, a1, _⟩ := a.ex s ρ r x hx
  obtain ⟨m, b1, _⟩ := b.ex s ρ r y hy
  obtain ⟨l, c1, _⟩ := c.ex s ρ r z hz
  have q1 := q.op x y k hk
  refine ⟨0, ?_, Nat.le_refl _⟩
  cases k with
  | false =>
    cases hd
    simp [a1, b1, c1, q1, eB]
  | true =>
    have q2 := q'.op y z d hd
    simp [a1, b1, c1, q1, q2, eB]⟩
theorem tp_isi {T : String} {o : α → Bool} {f1 : PF} {F : σ → Option α} (a : TP R f1 e k1 F) (q : ∀ x, noDictTop (e x) = true ∧ isT T (e x) = o x) : TP R (isiP T f1) eB 0 (tOp1 (fun x => some (o x)) F) := ⟨fun s ρ r c hc => by
  obtain ⟨x, hx, hc⟩ := bind_some' hc
  obtain ⟨n, a1, a2⟩ := a.ex s ρ r x hx
  cases hc
  obtain ⟨q1, q2⟩ := q x
  exact ⟨0, by simp [a1, q1, q2, eB], Nat.le_refl _⟩⟩
end

/-! operations -/
section
variable {α β γ : Type} {e : α → D} {f : β → D}
theorem o_add : Op2 addI eI eI eI fun a b => some (a + b) := ⟨fun a b c h => by cases h; simp [eI]⟩
theorem o_sub : Op2 subI eI eI eI fun a b => some (a - b) := ⟨fun a b c h => by cases h; simp [eI]⟩
noncomputable def tMul (a b : Int) : Option Int := if Hd (CMulZ a b) then some (a * b) else none
theorem o_mul : Op2 mulI eI eI eI tMul := ⟨fun a b c h => by
  unfold tMul at h
  split at h
  · rename_i z; cases h; exact mulI_int a b z
  · cases h⟩
def tMod (a b : Int) : Option Int := if 0 < b then some (a % b) else none
theorem o_mod : Op2 modI eI eI eI tMod := ⟨fun a b c h => by
  unfold tMod at h
  split at h
  · rename_i z; cases h; exact modI_int a b z
  · cases h⟩
noncomputable def tDiv (a b : Int) : Option Int := if Hd (CDiv a b) then some (a / b) else none
theorem o_div : Op2 fdivI eI eI eI tDiv := ⟨fun a b c h => by
  unfold tDiv at h
  split at h
  · rename_i z; cases h; exact fdivI_int a b z
  · cases h⟩
noncomputable def tPow (a b : Int) : Option Int := if Hd (CPow a b) then some (a ^ b.toNat) else none
theorem o_pow : Op2 powI eI eI eI tPow := ⟨fun a b c h => by
  unfold tPow at h
  split at h
  · rename_i z; have z : CPow a b := z; cases h; simp [powI, iiD, z, eI]
  · cases h⟩
theorem o_ltI : Op2 ltI eI eI eB fun a b => some (decide (a < b)) := ⟨fun a b c h => by cases h; exact ltI_int a b⟩
theorem o_lt : Op2 ltA eI eI eB fun a b => some (decide (a < b)) := ⟨fun a b c h => by cases h; exact ltA_int a b⟩
theorem o_le : Op2 leI eI eI eB fun a b => some (decide (a ≤ b)) := ⟨fun a b c h => by cases h; exact leI_int a b⟩
theorem o_gt : Op2 gtI eI eI eB fun a b => some (decide (b < a)) := ⟨fun a b c h => by cases h; exact gtI_int a b⟩
theorem o_ge : Op2 geI eI eI eB fun a b => some (decide (b ≤ a)) := ⟨fun a b c h => by cases h; exact geI_int a b⟩
theorem o_ltT : Op2 ltA (eT eI) (eT eI) eB fun a b => some (HT.lexLt a b) := ⟨fun a b c h => by
  cases h
  show ltA (.tuple (a.map .int)) (.tuple (b.map .int)) = _
  rw [ltA_tup]
  simp [ltT, tintsD, DL.ints_map, eB]⟩
theorem o_ltP : Op2 ltA (eP eI eI) (eP eI eI) eB fun a b => some (SrtO.lexB a b) := ⟨fun a b c h => by cases h; exact ltA_pair a b⟩
@[simp] def tEq [DecidableEq α] (a b : α) : Option Bool := some (decide (a = b))
@[simp] def tNe [DecidableEq α] (a b : α) : Option Bool := some (!decide (a = b))
@[simp] def tIn [DecidableEq α] (a : α) (b : List α) : Option Bool := some (decide (a ∈ b))
@[simp] def tNi [DecidableEq α] (a : α) (b : List α) : Option Bool := some (!decide (a ∈ b))
theorem o_eq [DecidableEq α] {n : Nat} (h : Ok e n) (hn : n ≤ 64 := by decide) : Op2 eqD e e eB tEq := ⟨fun a b c q => by
  cases q
  rw [eqD_lay (h.lay a) (h.lay b) hn hn, h.dec]⟩
theorem o_ne [DecidableEq α] {n : Nat} (h : Ok e n) (hn : n ≤ 64 := by decide) : Op2 neD e e eB tNe := ⟨fun a b c q => by
  cases q
  rw [neD_lay (h.lay a) (h.lay b) hn hn, h.dec]⟩
theorem any_ok [DecidableEq α] {n : Nat} (h : Ok e n) (x : α) : ∀ xs : List α, ((xs.map e).any fun z => PyData.eqv z (e x)) = decide (x ∈ xs)
  | [] => by simp
  | a :: as => by
    rw [List.map_cons, List.any_cons, any_ok h x as, h.dec]
    by_cases q : a = x
    · subst q; simp
    · have : ¬ x = a := fun z => q z.symm
      simp [q, this]
theorem in_ok [DecidableEq α] {n : Nat} (h : Ok e n) (hn : n < 64) (neg : Bool) (x : α) (xs : List α) {y : D} (hy : itemsD y = some (xs.map e)) : inD neg (e x) y = some (.bool (if neg then !decide (x ∈ xs) else decide (x ∈ xs))) := by
  have ll : Lay (n + 1) (.list (xs.map e)) := lay_list (lay_map h xs)
  unfold inD
  rw [hy, Option.bind_some, nod_of _ (h.lay x).1, nod_of _ ll.1, (h.lay x).shp (by omega), ll.shp (by omega), any_ok h]
  rfl
theorem o_inL [DecidableEq α] {n : Nat} (h : Ok e n) (hn : n < 64 := by decide) : Op2 (inD false) e (eL e) eB tIn := ⟨fun a b c q => by cases q; exact in_ok h hn false a b rfl⟩
theorem o_inT [DecidableEq α] {n : Nat} (h : Ok e n) (hn : n < 64 := by decide) : Op2 (inD false) e (eT e) eB tIn := ⟨fun a b c q => by cases q; exact in_ok h hn false a b rfl⟩
theorem o_niL [DecidableEq α] {n : Nat} (h : Ok e n) (hn : n < 64 := by decide) : Op2 (inD true) e (eL e) eB tNi := ⟨fun a b c q => by cases q; exact in_ok h hn true a b rfl⟩
theorem o_niT [DecidableEq α] {n : Nat} (h : Ok e n) (hn : n < 64 := by decide) : Op2 (inD true) e (eT e) eB tNi := ⟨fun a b c q => by cases q; exact in_ok h hn true a b rfl⟩
/-- never None -/
def NN (e : α → D) : Prop := ∀ a, isNone (e a) = false
theorem nn_I : NN eI := fun _ => rfl
theorem nn_B : NN eB := fun _ => rfl
theorem nn_L : NN (eL e) := fun _ => rfl
theorem nn_T : NN (eT e) := fun _ => rfl
theorem nn_P : NN (eP e f) := fun _ => rfl
theorem o_isO (h : NN e) : Op2 isD (eO e) eU eB fun a _ => some a.isNone := ⟨fun a b c q => by
  cases q
  cases a with
  | none => rfl
  | some a => show some (PyData.bool (isNone (e a))) = _; rw [h a]; rfl⟩
theorem o_isnO (h : NN e) : Op2 isNotD (eO e) eU eB fun a _ => some a.isSome := ⟨fun a b c q => by
  cases q
  cases a with
  | none => rfl
  | some a => show some (PyData.bool (!isNone (e a))) = _; rw [h a]; rfl⟩
theorem o_isN : Op2 isD eU eU eB fun _ _ => some true := ⟨fun a b c q => by cases q; rfl⟩
theorem o_isnN : Op2 isNotD eU eU eB fun _ _ => some false := ⟨fun a b c q => by cases q; rfl⟩
theorem o_isS (h : NN e) : Op2 isD e eU eB fun _ _ => some false := ⟨fun a b c q => by cases q; show some (PyData.bool (isNone (e a))) = _; rw [h a]⟩
theorem o_isnS (h : NN e) : Op2 isNotD e eU eB fun _ _ => some true := ⟨fun a b c q => by cases q; show some (PyData.bool (!isNone (e a))) = _; rw [h a]; rfl⟩
theorem o_lenL : Op1 lenD (eL e) eI fun a => some (a.length : Int) := ⟨fun a n c q => by cases q; show some (PyData.int ((a.map e).length : Nat)) = _; rw [List.length_map]⟩
theorem o_lenT : Op1 lenD (eT e) eI fun a => some (a.length : Int) := ⟨fun a n c q => by cases q; show some (PyData.int ((a.map e).length : Nat)) = _; rw [List.length_map]⟩
/-- of a display's length -/
theorem o_lenC {k : Nat} (h : ∀ a, ∃ ds, e a = .tuple ds ∧ ds.length = k := by exact fun _ => ⟨_, rfl, rfl⟩) : Op1 lenD e eI fun _ => some (k : Int) := ⟨fun a n c q => by
  cases q
  obtain ⟨ds, h1, h2⟩ := h a
  rw [h1, ← h2]
  rfl⟩
theorem o_sum : Op1 sumD (eL eI) eI fun a => some a.sum := ⟨fun a n c q => by cases q; simp [eL, sumD, DL.ints_map, eI]⟩
theorem o_all : Op1 allD (eL eB) eB fun a => some (a.all id) := ⟨fun a n c q => by cases q; simp [eL, allD, bools_map, eB]⟩
theorem o_any : Op1 anyD (eL eB) eB fun a => some (a.any id) := ⟨fun a n c q => by cases q; simp [eL, anyD, bools_map, eB]⟩
theorem o_abs : Op1 absD eI eI fun a => some (if a < 0 then -a else a) := ⟨fun a n c q => by cases q; rfl⟩
theorem o_intI : Op1 intD eI eI fun a => some a := ⟨fun a n c q => by cases q; rfl⟩
theorem o_intB : Op1 intD eB eI fun a => some (if a = true then 1 else 0) := ⟨fun a n c q => by cases q; rfl⟩
theorem o_max : Op11 max2 eI eI eI fun a b => some (max a b) := ⟨fun a n b m c q => by
  cases q
  show some (PyData.int (if b > a then b else a)) = some (PyData.int _)
  congr 2
  rw [Int.max_def]; split <;> split <;> omega⟩
theorem o_min : Op11 min2 eI eI eI fun a b => some (min a b) := ⟨fun a n b m c q => by
  cases q
  show some (PyData.int (if b < a then b else a)) = some (PyData.int _)
  congr 2
  rw [Int.min_def]; split <;> split <;> omega⟩
end
end TL

namespace TL
open PySem PySem.Spec PyProof.Rows L2 DL
section
variable {σ σ' σ1 σ2 σ3 ι α β γ δ τ τ' : Type} {R : ER σ} {R' : ER σ'} {R1 : ER σ1} {R2 : ER σ2} {R3 : ER σ3} {e : α → D} {f : β → D} {h : γ → D} {lo hi lo1 hi1 lo2 hi2 h1 h2 k1 k2 : Nat} {i : Nat}
/-! expressions -/
structure TE (R : ER σ) (f : EF) (e : α → D) (lo hi : Nat) (F : σ → Option α) (R' : ER σ) : Prop where
  ex : ∀ s ρ, R s ρ → ∀ a, F s = some a → ∃ n ρ', f ρ = .ok (e a, n, ρ') ∧ lo ≤ n ∧ n ≤ hi ∧ R' s ρ'
structure TX (R : ER σ) (f : EF) (e : α → D) (lo hi : Nat) (F : σ → Option (α × σ')) (R' : ER σ') : Prop where
  ex : ∀ s ρ, R s ρ → ∀ a s', F s = some (a, s') → ∃ n ρ', f ρ = .ok (e a, n, ρ') ∧ lo ≤ n ∧ n ≤ hi ∧ R' s' ρ'
@[simp] def tX (F : σ → Option α) : σ → Option (α × σ) := fun s => (F s).map fun a => (a, s)
theorem TE.x {g : EF} {F : σ → Option α} {R' : ER σ} (q : TE R g e lo hi F R') : TX R g e lo hi (tX F) R' := ⟨fun s ρ r a s' z => by
  simp only [tX, Option.map_eq_some_iff, Prod.mk.injEq] at z
  obtain ⟨b, h1, h2, h3⟩ := z
  subst h2 h3
  exact q.ex s ρ r b h1⟩
theorem TX.p {g : EF} {F : σ → Option α} {G : σ → Option (α × σ)} {R' : ER σ} (q : TX R g e lo hi G R') (w : ∀ s, G s = (F s).map fun a => (a, s)) : TE R g e lo hi F R' := ⟨fun s ρ r a z => q.ex s ρ r a s (by rw [w, z]; rfl)⟩
theorem te_p0 {g : PF} {F : σ → Option α} (q : TP R g e 0 F) : TE R (pE g) e 0 0 F R := ⟨fun s ρ r a z => by
  obtain ⟨n, h1, h2⟩ := q.ex s ρ r a z
  have : n = 0 := by omega
  subst this
  exact ⟨0, ρ, by simp [h1], Nat.le_refl _, Nat.le_refl _, r⟩⟩
theorem te_pS {g : PF} {F : σ → Option α} (w : Still e) (q : TP R g e hi F) : TE R (pE g) e 0 0 F R := ⟨fun s ρ r a z => by
  obtain ⟨n, h1, h2⟩ := q.ex s ρ r a z
  exact ⟨0, ρ, by simp [h1, upD, w a], Nat.le_refl _, Nat.le_refl _, r⟩⟩
theorem te_v {g : σ → α} {R' : ER σ} (w : Frz R i g e R') : TE R (vE i) e 0 0 (tV g) R' := ⟨fun s ρ r a z => by
  cases z
  obtain ⟨n, h1, h2⟩ := w.frz s ρ r
  exact ⟨0, _, frzS_of h1, Nat.le_refl _, Nat.le_refl _, h2⟩⟩
theorem te_p1 {g : PF} {F : σ → Option α} (q : TP R g e hi F) : TE R (p1 g) e 0 hi F R := ⟨fun s ρ r a z => by
  obtain ⟨n, h1, h2⟩ := q.ex s ρ r a z
  exact ⟨n, ρ, by simp [h1], Nat.zero_le _, h2, r⟩⟩
theorem te_wk {g : EF} {F : σ → Option α} {R' R'' : ER σ} (q : TE R g e lo hi F R') (w : Wk R' (fun s => s) R'') (q1 : lo1 ≤ lo := by decide) (q2 : hi ≤ hi1 := by decide) : TE R g e lo1 hi1 F R'' := ⟨fun s ρ r a z => by
  obtain ⟨n, ρ', a1, a2, a3, a4⟩ := q.ex s ρ r a z
  exact ⟨n, ρ', a1, by omega, by omega, w.wk _ _ a4⟩⟩
theorem tx_wk {g : EF} {F : σ → Option (α × σ')} {R'' : ER σ2} {p : σ' → σ2} (q : TX R g e lo hi F R') (w : Wk R' p R'') (q1 : lo1 ≤ lo := by decide) (q2 : hi ≤ hi1 := by decide) : TX R g e lo1 hi1 (fun s => (F s).map fun a => (a.1, p a.2)) R'' := ⟨fun s ρ r a s' z => by
  simp only [Option.map_eq_some_iff, Prod.mk.injEq] at z
  obtain ⟨b, h1, h2, h3⟩ := z
  subst h2 h3
  obtain ⟨n, ρ', a1, a2, a3, a4⟩ := q.ex s ρ r b.1 b.2 h1
  exact ⟨n, ρ', a1, by omega, by omega, w.wk _ _ a4⟩⟩
/-- another way to tell the value -/
theorem te_as {g : EF} {F : σ → Option α} {R' : ER σ} {m : α → β} (q : TE R g e lo hi F R') (w : ∀ a, e a = f (m a) := by exact fun _ => rfl) : TE R g f lo hi (tOp1 (fun a => some (m a)) F) R' := ⟨fun s ρ r b z => by
  obtain ⟨a, h1, h2⟩ := bind_some' z
  cases h2
  rw [← w]
  exact q.ex s ρ r a h1⟩
theorem tp_as {g : PF} {F : σ → Option α} {m : α → β} (q : TP R g e hi F) (w : ∀ a, e a = f (m a) := by exact fun _ => rfl) : TP R g f hi (tOp1 (fun a => some (m a)) F) := ⟨fun s ρ r b z => by
  obtain ⟨a, h1, h2⟩ := bind_some' z
  cases h2
  rw [← w]
  exact q.ex s ρ r a h1⟩

/-! two operands -/
structure TDp (R : ER σ) (g : D2F) (e : α → D) (h1 : Nat) (f : β → D) (h2 : Nat) (F : σ → Option (α × β)) (R' : ER σ) : Prop where
  ex : ∀ s ρ, R s ρ → ∀ a b, F s = some (a, b) → ∃ n m ρ', g ρ = .ok ((e a, n), (f b, m), ρ') ∧ n ≤ h1 ∧ m ≤ h2 ∧ R' s ρ'
structure TD (R : ER σ) (g : D2F) (e : α → D) (h1 : Nat) (f : β → D) (h2 : Nat) (F : σ → Option ((α × β) × σ')) (R' : ER σ') : Prop where
  ex : ∀ s ρ, R s ρ → ∀ a b s', F s = some ((a, b), s') → ∃ n m ρ', g ρ = .ok ((e a, n), (f b, m), ρ') ∧ n ≤ h1 ∧ m ≤ h2 ∧ R' s' ρ'
@[simp] def tPr (F : σ → Option α) (G : σ → Option β) : σ → Option (α × β) := fun s => (F s).bind fun a => (G s).bind fun b => some (a, b)
@[simp] def tPrX (F : σ → Option (α × σ1)) (G : σ1 → Option (β × σ2)) : σ → Option ((α × β) × σ2) := fun s => (F s).bind fun a => (G a.2).bind fun b => some ((a.1, b.1), b.2)
theorem td_P {f1 f2 : PF} {F : σ → Option α} {G : σ → Option β} (a : TP R f1 e h1 F) (b : TP R f2 f h2 G) : TDp R (d2P f1 f2) e h1 f h2 (tPr F G) R := ⟨fun s ρ r x y z => by
  obtain ⟨x', hx, z⟩ := bind_some' z
  obtain ⟨y', hy, z⟩ := bind_some' z
  cases z
  obtain ⟨n, a1, a2⟩ := a.ex s ρ r x hx
  obtain ⟨m, b1, b2⟩ := b.ex s ρ r y hy
  exact ⟨n, m, ρ, by simp [a1, b1], a2, b2, r⟩⟩
theorem tp_nilL : TP R (kN (.list [], 1)) (eL e) 1 (tK []) := ⟨fun s ρ r a z => by cases z; exact ⟨1, rfl, Nat.le_refl _⟩⟩
theorem tp_nilT : TP R (kN (.tuple [], 0)) (eT e) 0 (tK []) := ⟨fun s ρ r a z => by cases z; exact ⟨0, rfl, Nat.le_refl _⟩⟩
theorem td_E {f1 f2 : EF} {F : σ → Option (α × σ1)} {G : σ1 → Option (β × σ2)} (a : TX R f1 e lo1 h1 F R1) (b : TX R1 f2 f lo2 h2 G R2) : TD R (d2E f1 f2) e h1 f h2 (tPrX F G) R2 := ⟨fun s ρ r x y s' z => by
  obtain ⟨⟨x', s1⟩, hx, z⟩ := bind_some' z
  obtain ⟨⟨y', s2⟩, hy, z⟩ := bind_some' z
  cases z
  obtain ⟨n, ρ1, a1, a2, a3, r1⟩ := a.ex s ρ r x' s1 hx
  obtain ⟨m, ρ2, b1, b2, b3, r2⟩ := b.ex s1 ρ1 r1 y' _ hy
  exact ⟨n, m, ρ2, by simp [a1, b1], a3, b3, r2⟩⟩
theorem TD.p {g : D2F} {F : σ → Option (α × β)} {G : σ → Option ((α × β) × σ)} {R' : ER σ} (q : TD R g e h1 f h2 G R') (w : ∀ s, G s = (F s).map fun a => (a, s)) : TDp R g e h1 f h2 F R' := ⟨fun s ρ r a b z => q.ex s ρ r a b s (by rw [w, z]; rfl)⟩
theorem TDp.x {g : D2F} {F : σ → Option (α × β)} {R' : ER σ} (q : TDp R g e h1 f h2 F R') : TD R g e h1 f h2 (tX F) R' := ⟨fun s ρ r a b s' z => by
  simp only [tX, Option.map_eq_some_iff, Prod.mk.injEq] at z
  obtain ⟨b, z1, z2, z3⟩ := z
  subst z2 z3
  exact q.ex s ρ r a _ z1⟩
theorem td_Ep {f1 f2 : EF} {F : σ → Option α} {G : σ → Option β} {R1 R2 : ER σ} (a : TE R f1 e lo1 h1 F R1) (b : TE R1 f2 f lo2 h2 G R2) : TDp R (d2E f1 f2) e h1 f h2 (tPr F G) R2 := (td_E a.x b.x).p fun s => by
  cases q : F s <;> simp [q]
  cases q : G s <;> simp
structure OpN (g : D × Nat → D × Nat → Option (D × Nat)) (e : α → D) (h1 : Nat) (f : β → D) (h2 : Nat) (h : γ → D) (lo hi : Nat) (o : α → β → Option γ) : Prop where
  op : ∀ a b c n m, n ≤ h1 → m ≤ h2 → o a b = some c → ∃ k, g (e a, n) (f b, m) = some (h c, k) ∧ lo ≤ k ∧ k ≤ hi
theorem on_2 {g : D → D → Option D} {o : α → β → Option γ} (q : Op2 g e f h o) : OpN (upO g) e h1 f h2 h 0 0 o := ⟨fun a b c n m _ _ z => ⟨0, by simp [q.op a b c z], Nat.le_refl _, Nat.le_refl _⟩⟩
@[simp] def tBn (o : α → β → Option γ) (F : σ → Option (α × β)) : σ → Option γ := fun s => (F s).bind fun p => o p.1 p.2
@[simp] def tBnX (o : α → β → Option γ) (F : σ → Option ((α × β) × σ')) : σ → Option (γ × σ') := fun s => (F s).bind fun p => (o p.1.1 p.1.2).map fun c => (c, p.2)
theorem tx_bin {g : D × Nat → D × Nat → Option (D × Nat)} {o : α → β → Option γ} {f1 : D2F} {F : σ → Option ((α × β) × σ')} (q : OpN g e h1 f h2 h lo hi o) (a : TD R f1 e h1 f h2 F R') : TX R (binE g f1) h lo hi (tBnX o F) R' := ⟨fun s ρ r c s' z => by
  obtain ⟨⟨⟨x, y⟩, s1⟩, hx, z⟩ := bind_some' z
  simp only [Option.map_eq_some_iff, Prod.mk.injEq] at z
  obtain ⟨c', z1, z2, z3⟩ := z
  subst z2 z3
  obtain ⟨n, m, ρ', a1, a2, a3, r'⟩ := a.ex s ρ r x y s1 hx
  obtain ⟨k, b1, b2, b3⟩ := q.op x y c' n m a2 a3 z1
  exact ⟨k, ρ', by simp [a1, b1], b2, b3, r'⟩⟩
theorem te_bin {g : D × Nat → D × Nat → Option (D × Nat)} {o : α → β → Option γ} {f1 : D2F} {F : σ → Option (α × β)} {R' : ER σ} (q : OpN g e h1 f h2 h lo hi o) (a : TDp R f1 e h1 f h2 F R') : TE R (binE g f1) h lo hi (tBn o F) R' := (tx_bin q a.x).p fun s => by
  cases q : F s <;> simp [q]
noncomputable def tCat (a b : List α) : Option (List α) := if Hd (a.length + b.length ≤ 16777216) then some (a ++ b) else none
theorem tCat_some {a b c : List α} (z : tCat a b = some c) : a.length + b.length ≤ 16777216 ∧ c = a ++ b := by
  unfold tCat at z
  split at z
  · cases z; exact ⟨by assumption, rfl⟩
  · cases z
theorem on_catL (w1 : h1 ≤ 1 := by decide) (w2 : h2 ≤ 1 := by decide) : OpN addD (eL e) h1 (eL e) h2 (eL e) 1 1 tCat := ⟨fun a b c n m hn hm z => by
  obtain ⟨z1, rfl⟩ := tCat_some z
  have hn : n ≤ 1 := by omega
  have hm : m ≤ 1 := by omega
  exact ⟨1, by simp [eL, addD, addI, iiD, catT, catL, hn, hm, z1], Nat.le_refl _, Nat.le_refl _⟩⟩
theorem on_catT : OpN addD (eT e) h1 (eT e) h2 (eT e) 0 0 tCat := ⟨fun a b c n m hn hm z => by
  obtain ⟨z1, rfl⟩ := tCat_some z
  exact ⟨0, by simp [eT, addD, addI, iiD, catT, z1], Nat.le_refl _, Nat.le_refl _⟩⟩
theorem on_add : OpN addD eI h1 eI h2 eI 0 0 fun a b => some (a + b) := ⟨fun a b c n m hn hm z => by cases z; exact ⟨0, addD_int a b n m, Nat.le_refl _, Nat.le_refl _⟩⟩
theorem on_mul : OpN mulD eI h1 eI h2 eI 0 0 tMul := ⟨fun a b c n m hn hm z => by
  have := o_mul.op a b c z
  exact ⟨0, by simp [mulD, this], Nat.le_refl _, Nat.le_refl _⟩⟩
def tRep (a : List α) (k : Int) : Option (List α) := if k = 1 then some a else if k = 0 then some [] else none
theorem on_rep : OpN mulD (eT e) h1 eI h2 (eT e) 0 0 tRep := ⟨fun a b c n m hn hm z => by
  unfold tRep at z
  split at z
  · rename_i q; cases z; subst q
    exact ⟨0, mulD_tup1 _ n m, Nat.le_refl _, Nat.le_refl _⟩
  · split at z
    · rename_i q; cases z; subst q
      exact ⟨0, mulD_tup0 _ n m, Nat.le_refl _, Nat.le_refl _⟩
    · cases z⟩
/-! items -/
structure OpI (e : α → D) (h1 : Nat) (f : β → D) (h : γ → D) (o : α → β → Option γ) : Prop where
  op : ∀ a b c n m, n ≤ h1 → o a b = some c → ixE (e a, n) (f b, m) = some (h c)
theorem oi_L1 {h1 : Nat} (w : h1 ≤ 1 := by decide) : OpI (eL e) h1 eI e tIx := ⟨fun a b c n m hn z => by
  have : n - 1 = 0 := by omega
  simp [ixE, eL, eI, ixD, atI_map a b c z, this]⟩
theorem oi_LS (w : Still e) : OpI (eL e) h1 eI e tIx := ⟨fun a b c n m hn z => by simp [ixE, eL, eI, ixD, atI_map a b c z, w c]⟩
theorem oi_T : OpI (eT e) h1 eI e tIx := ⟨fun a b c n m hn z => by simp [ixE, eT, eI, ixD, atI_map a b c z]⟩
theorem tx_ix {o : α → β → Option γ} {f1 : D2F} {F : σ → Option ((α × β) × σ')} (q : OpI e h1 f h o) (a : TD R f1 e h1 f h2 F R') : TX R (ixEE f1) h 0 0 (tBnX o F) R' := ⟨fun s ρ r c s' z => by
  obtain ⟨⟨⟨x, y⟩, s1⟩, hx, z⟩ := bind_some' z
  simp only [Option.map_eq_some_iff, Prod.mk.injEq] at z
  obtain ⟨c', z1, z2, z3⟩ := z
  subst z2 z3
  obtain ⟨n, m, ρ', a1, a2, a3, r'⟩ := a.ex s ρ r x y s1 hx
  have b1 := q.op x y c' n m a2 z1
  exact ⟨0, ρ', by simp [a1, b1], Nat.le_refl _, Nat.le_refl _, r'⟩⟩
theorem te_ix {o : α → β → Option γ} {f1 : D2F} {F : σ → Option (α × β)} {R' : ER σ} (q : OpI e h1 f h o) (a : TDp R f1 e h1 f h2 F R') : TE R (ixEE f1) h 0 0 (tBn o F) R' := (tx_ix q a.x).p fun s => by
  cases q : F s <;> simp [q]
/-- a field of a display -/
theorem te_ixC {f1 : EF} {F : σ → Option α} {g : α → γ} {j : Int} {R' : ER σ} (a : TE R f1 e lo hi F R') (q : ∀ x, ∃ ds, e x = .tuple ds ∧ atI ds j = some (h (g x)) := by exact fun _ => ⟨_, rfl, rfl⟩) : TE R (ixEE (d2E f1 (p1 (kP (.int j))))) h 0 0 (tOp1 (fun x => some (g x)) F) R' := ⟨fun s ρ r c z => by
  obtain ⟨x, hx, z⟩ := bind_some' z
  cases z
  obtain ⟨n, ρ', a1, a2, a3, r'⟩ := a.ex s ρ r x hx
  obtain ⟨ds, q1, q2⟩ := q x
  exact ⟨0, ρ', by simp [a1, q1, ixE, ixD, q2], Nat.le_refl _, Nat.le_refl _, r'⟩⟩

/-! lists of values -/
def eNil : Unit → List D := fun _ => []
def eCons (e : α → D) (E : τ → List D) : α × τ → List D := fun p => e p.1 :: E p.2
structure TA (R : ER σ) (g : AF) (E : τ → List D) (F : σ → Option (τ × σ')) (R' : ER σ') : Prop where
  ex : ∀ s ρ, R s ρ → ∀ a s', F s = some (a, s') → ∃ ρ', g ρ = .ok (E a, ρ') ∧ R' s' ρ'
structure TAp (R : ER σ) (g : AF) (E : τ → List D) (F : σ → Option τ) (R' : ER σ) : Prop where
  ex : ∀ s ρ, R s ρ → ∀ a, F s = some a → ∃ ρ', g ρ = .ok (E a, ρ') ∧ R' s ρ'
theorem TAp.x {g : AF} {E : τ → List D} {F : σ → Option τ} {R' : ER σ} (q : TAp R g E F R') : TA R g E (tX F) R' := ⟨fun s ρ r a s' z => by
  simp only [tX, Option.map_eq_some_iff, Prod.mk.injEq] at z
  obtain ⟨b, h1, h2, h3⟩ := z
  subst h2 h3
  exact q.ex s ρ r b h1⟩
theorem TA.p {g : AF} {E : τ → List D} {F : σ → Option τ} {G : σ → Option (τ × σ)} {R' : ER σ} (q : TA R g E G R') (w : ∀ s, G s = (F s).map fun a => (a, s)) : TAp R g E F R' := ⟨fun s ρ r a z => q.ex s ρ r a s (by rw [w, z]; rfl)⟩
theorem ta_nil : TAp R nilA eNil (tK ()) R := ⟨fun s ρ r a z => by cases z; exact ⟨ρ, rfl, r⟩⟩
theorem ta_consX {f1 : EF} {g : AF} {E : τ → List D} {F : σ → Option (α × σ1)} {G : σ1 → Option (τ × σ2)} (a : TX R f1 e lo hi F R1) (b : TA R1 g E G R2) : TA R (consA f1 g) (eCons e E) (tPrX F G) R2 := ⟨fun s ρ r x s' z => by
  obtain ⟨⟨x', s1⟩, hx, z⟩ := bind_some' z
  obtain ⟨⟨y', s2⟩, hy, z⟩ := bind_some' z
  cases z
  obtain ⟨n, ρ1, a1, a2, a3, r1⟩ := a.ex s ρ r x' s1 hx
  obtain ⟨ρ2, b1, r2⟩ := b.ex s1 ρ1 r1 y' _ hy
  exact ⟨ρ2, by simp [a1, b1, eCons], r2⟩⟩
theorem ta_cons {f1 : EF} {g : AF} {E : τ → List D} {F : σ → Option α} {G : σ → Option τ} {R1 R2 : ER σ} (a : TE R f1 e lo hi F R1) (b : TAp R1 g E G R2) : TAp R (consA f1 g) (eCons e E) (tPr F G) R2 := (ta_consX a.x b.x).p fun s => by
  cases q : F s <;> simp [q]
  cases q : G s <;> simp
theorem tx_tup {g : AF} {E : τ → List D} {F : σ → Option (τ × σ')} {m : τ → α} {k : Nat} (a : TA R g E F R') (w : ∀ x, PyData.tuple (E x) = e (m x) := by exact fun _ => rfl) (wl : ∀ x, (E x).length = k := by exact fun _ => rfl) (wk : k ≤ 1000 := by decide) : TX R (tupE g) e 0 0 (fun s => (F s).map fun p => (m p.1, p.2)) R' := ⟨fun s ρ r c s' z => by
  simp only [Option.map_eq_some_iff, Prod.mk.injEq] at z
  obtain ⟨⟨x, s1⟩, z1, z2, z3⟩ := z
  subst z2 z3
  obtain ⟨ρ', a1, r'⟩ := a.ex s ρ r x s1 z1
  have l := wl x
  exact ⟨0, ρ', by rw [← w]; simp [a1, l]; omega, Nat.le_refl _, Nat.le_refl _, r'⟩⟩
theorem te_tup {g : AF} {E : τ → List D} {F : σ → Option τ} {m : τ → α} {k : Nat} {R' : ER σ} (a : TAp R g E F R') (w : ∀ x, PyData.tuple (E x) = e (m x) := by exact fun _ => rfl) (wl : ∀ x, (E x).length = k := by exact fun _ => rfl) (wk : k ≤ 1000 := by decide) : TE R (tupE g) e 0 0 (tOp1 (fun x => some (m x)) F) R' := (tx_tup (e := e) (m := m) a.x w wl wk).p fun s => by
  cases q : F s <;> simp [q]
theorem tx_lst {g : AF} {E : τ → List D} {F : σ → Option (τ × σ')} {m : τ → α} {k : Nat} (a : TA R g E F R') (w : ∀ x, PyData.list (E x) = e (m x) := by exact fun _ => rfl) (wl : ∀ x, (E x).length = k := by exact fun _ => rfl) (wk : k ≤ 1000 := by decide) : TX R (lstE g) e 1 1 (fun s => (F s).map fun p => (m p.1, p.2)) R' := ⟨fun s ρ r c s' z => by
  simp only [Option.map_eq_some_iff, Prod.mk.injEq] at z
  obtain ⟨⟨x, s1⟩, z1, z2, z3⟩ := z
  subst z2 z3
  obtain ⟨ρ', a1, r'⟩ := a.ex s ρ r x s1 z1
  have l := wl x
  exact ⟨1, ρ', by rw [← w]; simp [a1, l]; omega, Nat.le_refl _, Nat.le_refl _, r'⟩⟩
theorem te_lst {g : AF} {E : τ → List D} {F : σ → Option τ} {m : τ → α} {k : Nat} {R' : ER σ} (a : TAp R g E F R') (w : ∀ x, PyData.list (E x) = e (m x) := by exact fun _ => rfl) (wl : ∀ x, (E x).length = k := by exact fun _ => rfl) (wk : k ≤ 1000 := by decide) : TE R (lstE g) e 1 1 (tOp1 (fun x => some (m x)) F) R' := (tx_lst (e := e) (m := m) a.x w wl wk).p fun s => by
  cases q : F s <;> simp [q]

/-! calls -/
structure TF (g : List D → Res (D × Nat)) (E : τ → List D) (e : α → D) (lo hi : Nat) (F : τ → Option α) : Prop where
  ex : ∀ x a, F x = some a → ∃ n, g (E x) = .ok (e a, n) ∧ lo ≤ n ∧ n ≤ hi
theorem tx_call {g : List D → Res (D × Nat)} {fa : AF} {E : τ → List D} {k : Nat} {G : τ → Option α} {F : σ → Option (τ × σ')} (q : TF g E e lo hi G) (a : TA R fa E F R') (wl : ∀ x, (E x).length = k := by exact fun _ => rfl) : TX R (callDE g k fa) e lo hi (fun s => (F s).bind fun p => (G p.1).map fun c => (c, p.2)) R' := ⟨fun s ρ r c s' z => by
  obtain ⟨⟨x, s1⟩, hx, z⟩ := bind_some' z
  simp only [Option.map_eq_some_iff, Prod.mk.injEq] at z
  obtain ⟨c', z1, z2, z3⟩ := z
  subst z2 z3
  obtain ⟨ρ', a1, r'⟩ := a.ex s ρ r x s1 hx
  obtain ⟨n, b1, b2, b3⟩ := q.ex x c' z1
  exact ⟨n, ρ', by simp [a1, wl x, b1], b2, b3, r'⟩⟩
theorem te_call {g : List D → Res (D × Nat)} {fa : AF} {E : τ → List D} {k : Nat} {G : τ → Option α} {F : σ → Option τ} {R' : ER σ} (q : TF g E e lo hi G) (a : TAp R fa E F R') (wl : ∀ x, (E x).length = k := by exact fun _ => rfl) : TE R (callDE g k fa) e lo hi (tOp1 G F) R' := (tx_call q a.x wl).p fun s => by
  cases q : F s <;> simp [q]
theorem te_callK {g : List D → Res (D × Nat)} {fa : AF} {E : τ → List D} {E' : τ' → List D} {m k : Nat} {π : List Nat} {pm : τ → τ'} {G : τ' → Option α} {F : σ → Option τ} {R' : ER σ} (q : TF g E' e lo hi G) (a : TAp R fa E F R') (w : ∀ x, permF π (E x) = E' (pm x) := by exact fun _ => rfl) (wl : ∀ x, (E x).length = m := by exact fun _ => rfl) (wk : ∀ x, (E' x).length = k := by exact fun _ => rfl) : TE R (callKE g m k π fa) e lo hi (tOp1 (fun x => G (pm x)) F) R' := ⟨fun s ρ r c z => by
  obtain ⟨x, hx, z⟩ := bind_some' z
  obtain ⟨ρ', a1, r'⟩ := a.ex s ρ r x hx
  obtain ⟨n, b1, b2, b3⟩ := q.ex _ c z
  exact ⟨n, ρ', by simp [a1, w x, wl x, wk (pm x), b1], b2, b3, r'⟩⟩
structure TFI (g : List D → Res ((D × Nat) × D)) (eι : ι → D) (E : τ → List D) (e : α → D) (lo hi : Nat) (F : ι × τ → Option (α × ι)) : Prop where
  ex : ∀ i x a i', F (i, x) = some (a, i') → ∃ n, g (eι i :: E x) = .ok ((e a, n), eι i') ∧ lo ≤ n ∧ n ≤ hi
@[simp] def tIO (ge : σ1 → ι) (pu : ι → σ1 → σ2) (G : ι × τ → Option (α × ι)) (F : σ → Option (τ × σ1)) : σ → Option (α × σ2) := fun s => (F s).bind fun p => (G (ge p.2, p.1)).map fun c => (c.1, pu c.2 p.2)
theorem tx_io {g : List D → Res ((D × Nat) × D)} {fa : AF} {E : τ → List D} {eι : ι → D} {k m l0 u0 : Nat} {g0 : σ → ι} {ge : σ1 → ι} {pu : ι → σ1 → σ2} {G : ι × τ → Option (α × ι)} {F : σ → Option (τ × σ1)} (q : TFI g eι E e lo hi G) (w0 : Get R i g0 eι l0 u0) (a : TA R fa E F R1) (w1 : Get R1 i ge eι m m) (w2 : Put R1 i eι m m pu R2) (wl : ∀ x, (E x).length = k := by exact fun _ => rfl) :
    TX R (callIF i k m g fa) e lo hi (tIO ge pu G F) R2 := ⟨fun s ρ r c s' z => by
  obtain ⟨⟨x, s1⟩, hx, z⟩ := bind_some' z
  simp only [Option.map_eq_some_iff, Prod.mk.injEq] at z
  obtain ⟨⟨c', i'⟩, z1, z2, z3⟩ := z
  subst z2 z3
  obtain ⟨n0, a0, _⟩ := w0.get s ρ r
  obtain ⟨ρ', a1, r'⟩ := a.ex s ρ r x s1 hx
  obtain ⟨n1, a2, a3, a4⟩ := w1.get s1 ρ' r'
  have : n1 = m := by omega
  subst this
  obtain ⟨n, b1, b2, b3⟩ := q.ex _ x c' i' z1
  refine ⟨n, ρ'.set i (some (eι i', n1)), ?_, b2, b3, w2.put _ _ _ _ r' (Nat.le_refl _) (Nat.le_refl _)⟩
  simp [callIF, a0, a1, a2, wl x, b1, endI]⟩

/-! functions of the language -/
structure OpC (g : List (D × Nat) → Option (D × Nat)) (e : α → D) (h1 : Nat) (h : γ → D) (lo hi : Nat) (o : α → Option γ) : Prop where
  op : ∀ a n c, n ≤ h1 → o a = some c → ∃ k, g [(e a, n)] = some (h c, k) ∧ lo ≤ k ∧ k ≤ hi
theorem oc_1 {g : List (D × Nat) → Option D} {o : α → Option γ} (q : Op1 g e h o) : OpC (upC g) e h1 h 0 0 o := ⟨fun a n c _ z => ⟨0, by simp [q.op a n c z], Nat.le_refl _, Nat.le_refl _⟩⟩
theorem oc_listL (w : h1 ≤ 1 := by decide) : OpC listD (eL e) h1 (eL e) 1 1 fun a => some a := ⟨fun a n c hn z => by
  cases z
  have : n ≤ 1 := by omega
  exact ⟨1, by simp [eL, listD, this], Nat.le_refl _, Nat.le_refl _⟩⟩
theorem oc_listT : OpC listD (eT e) h1 (eL e) 1 1 fun a => some a := ⟨fun a n c hn z => by cases z; exact ⟨1, rfl, Nat.le_refl _, Nat.le_refl _⟩⟩
theorem oc_tupleL (w : h1 ≤ 1 := by decide) : OpC tupleD (eL e) h1 (eT e) 0 0 fun a => some a := ⟨fun a n c hn z => by
  cases z
  have : n ≤ 1 := by omega
  exact ⟨0, by simp [eL, eT, tupleD, this], Nat.le_refl _, Nat.le_refl _⟩⟩
theorem oc_tupleT : OpC tupleD (eT e) h1 (eT e) 0 0 fun a => some a := ⟨fun a n c hn z => by cases z; exact ⟨0, rfl, Nat.le_refl _, Nat.le_refl _⟩⟩
theorem oc_sortI : OpC sortedD (eL eI) h1 (eL eI) 1 1 fun a => some (sortI a) := ⟨fun a n c hn z => by cases z; exact ⟨1, sortedD_ints a n, Nat.le_refl _, Nat.le_refl _⟩⟩
theorem oc_sortP : OpC sortedD (eL (eP eI eI)) h1 (eL (eP eI eI)) 1 1 fun a => some (sortP a) := ⟨fun a n c hn z => by
  cases z
  refine ⟨1, ?_, Nat.le_refl _, Nat.le_refl _⟩
  show (sortedI [(.list (a.map pairV), n)]).or (sortedPD [(.list (a.map pairV), n)]) = some (.list ((sortP a).map pairV), 1)
  cases a with
  | nil => simp [sortedI, intsD, sortP, sortI]
  | cons p ps =>
    have h1 : sortedI [(.list ((p :: ps).map pairV), n)] = none := by simp [sortedI, pairV, intsD]
    rw [h1]
    simp only [Option.none_or, sortedPD]
    rw [pairsD_map]
    rfl⟩
theorem tx_c1 {g : List (D × Nat) → Option (D × Nat)} {f1 : EF} {o : α → Option γ} {F : σ → Option (α × σ')} (q : OpC g e h1 h lo hi o) (a : TX R f1 e lo1 h1 F R') : TX R (callE g (consO f1 nilO)) h lo hi (fun s => (F s).bind fun p => (o p.1).map fun c => (c, p.2)) R' := ⟨fun s ρ r c s' z => by
  obtain ⟨⟨x, s1⟩, hx, z⟩ := bind_some' z
  simp only [Option.map_eq_some_iff, Prod.mk.injEq] at z
  obtain ⟨c', z1, z2, z3⟩ := z
  subst z2 z3
  obtain ⟨n, ρ', a1, a2, a3, r'⟩ := a.ex s ρ r x s1 hx
  obtain ⟨k, b1, b2, b3⟩ := q.op x n c' a3 z1
  exact ⟨k, ρ', by simp [a1, b1], b2, b3, r'⟩⟩
theorem te_c1 {g : List (D × Nat) → Option (D × Nat)} {f1 : EF} {o : α → Option γ} {F : σ → Option α} {R' : ER σ} (q : OpC g e h1 h lo hi o) (a : TE R f1 e lo1 h1 F R') : TE R (callE g (consO f1 nilO)) h lo hi (tOp1 o F) R' := (tx_c1 q a.x).p fun s => by
  cases q : F s <;> simp [q]
theorem te_c1p {g : List (D × Nat) → Option (D × Nat)} {f1 : PF} {o : α → Option γ} {F : σ → Option α} (q : OpC g e h1 h lo hi o) (a : TP R f1 e h1 F) : TE R (callE g (pO (consP f1 nilP))) h lo hi (tOp1 o F) R := ⟨fun s ρ r c z => by
  obtain ⟨x, hx, z⟩ := bind_some' z
  obtain ⟨n, a1, a2⟩ := a.ex s ρ r x hx
  obtain ⟨k, b1, b2, b3⟩ := q.op x n c a2 z
  exact ⟨k, ρ, by simp [a1, b1], b2, b3, r⟩⟩
/-- two of them -/
theorem tx_c2 {g : List (D × Nat) → Option D} {f1 f2 : EF} {o : α → β → Option γ} {F : σ → Option (α × σ1)} {G : σ1 → Option (β × σ2)} (q : Op11 g e f h o) (a : TX R f1 e lo1 h1 F R1) (b : TX R1 f2 f lo2 h2 G R2) : TX R (callE (upC g) (consO f1 (consO f2 nilO))) h 0 0 (tBnX o (tPrX F G)) R2 := ⟨fun s ρ r c s' z => by
  obtain ⟨⟨⟨x, y⟩, s1⟩, hx, z⟩ := bind_some' z
  obtain ⟨⟨x', s3⟩, hx', hx⟩ := bind_some' hx
  obtain ⟨⟨y', s4⟩, hy', hx⟩ := bind_some' hx
  cases hx
  simp only [Option.map_eq_some_iff, Prod.mk.injEq] at z
  obtain ⟨c', z1, z2, z3⟩ := z
  subst z2 z3
  obtain ⟨n, ρ1, a1, a2, a3, r1⟩ := a.ex s ρ r x' s3 hx'
  obtain ⟨m, ρ2, b1, b2, b3, r2⟩ := b.ex s3 ρ1 r1 y' _ hy'
  exact ⟨0, ρ2, by simp [a1, b1, q.op x' n y' m c' z1], Nat.le_refl _, Nat.le_refl _, r2⟩⟩
theorem te_c2 {g : List (D × Nat) → Option D} {f1 f2 : EF} {o : α → β → Option γ} {F : σ → Option α} {G : σ → Option β} {R1 R2 : ER σ} (q : Op11 g e f h o) (a : TE R f1 e lo1 h1 F R1) (b : TE R1 f2 f lo2 h2 G R2) : TE R (callE (upC g) (consO f1 (consO f2 nilO))) h 0 0 (tOp2 o F G) R2 := (tx_c2 q a.x b.x).p fun s => by
  cases q : F s <;> simp [q]
  cases q : G s <;> simp
/-! slices -/
structure TO (R : ER σ) (g : Env' → Option (Option Int)) (F : σ → Option (Option Int)) : Prop where
  ex : ∀ s ρ, R s ρ → ∀ a, F s = some a → g ρ = some a
theorem to_no : TO R noS (tK none) := ⟨fun s ρ r a z => by cases z; rfl⟩
theorem to_at {g : PF} {F : σ → Option Int} (q : TP R g eI hi F) : TO R (atS g) (tOp1 (fun i => some (some i)) F) := ⟨fun s ρ r a z => by
  obtain ⟨x, hx, z⟩ := bind_some' z
  cases z
  obtain ⟨n, a1, _⟩ := q.ex s ρ r x hx
  simp [a1, eI]⟩
def tCut (xs : List α) (lo hi : Option Int) : List α := (xs.drop (HT.sIx xs.length 0 lo)).take (HT.sIx xs.length xs.length hi - HT.sIx xs.length 0 lo)
theorem cut_map (xs : List α) (lo hi : Option Int) : DL.cutD (xs.map e) lo hi = (tCut xs lo hi).map e := by
  unfold DL.cutD tCut
  rw [List.length_map, List.map_take, List.map_drop]
@[simp] def tSl (F : σ → Option (List α)) (G H : σ → Option (Option Int)) : σ → Option (List α) := fun s => (F s).bind fun x => (G s).bind fun l => (H s).bind fun u => some (tCut x l u)
theorem te_slL {f1 : EF} {g1 g2 : Env' → Option (Option Int)} {F : σ → Option (List α)} {G H : σ → Option (Option Int)} {R' : ER σ} (a : TE R f1 (eL e) lo hi F R') (b : TO R' g1 G) (c : TO R' g2 H) (w : hi ≤ 1 := by decide) : TE R (slcE f1 g1 g2) (eL e) 1 1 (tSl F G H) R' := ⟨fun s ρ r v z => by
  obtain ⟨x, hx, z⟩ := bind_some' z
  obtain ⟨l, hl, z⟩ := bind_some' z
  obtain ⟨u, hu, z⟩ := bind_some' z
  cases z
  obtain ⟨n, ρ', a1, a2, a3, r'⟩ := a.ex s ρ r x hx
  have b1 := b.ex s ρ' r' l hl
  have c1 := c.ex s ρ' r' u hu
  have : n ≤ 1 := by omega
  exact ⟨1, ρ', by simp [a1, b1, c1, slD, eL, this, cut_map], Nat.le_refl _, Nat.le_refl _, r'⟩⟩
theorem te_slT {f1 : EF} {g1 g2 : Env' → Option (Option Int)} {F : σ → Option (List α)} {G H : σ → Option (Option Int)} {R' : ER σ} (a : TE R f1 (eT e) lo hi F R') (b : TO R' g1 G) (c : TO R' g2 H) : TE R (slcE f1 g1 g2) (eT e) 0 0 (tSl F G H) R' := ⟨fun s ρ r v z => by
  obtain ⟨x, hx, z⟩ := bind_some' z
  obtain ⟨l, hl, z⟩ := bind_some' z
  obtain ⟨u, hu, z⟩ := bind_some' z
  cases z
  obtain ⟨n, ρ', a1, a2, a3, r'⟩ := a.ex s ρ r x hx
  have b1 := b.ex s ρ' r' l hl
  have c1 := c.ex s ρ' r' u hu
  exact ⟨0, ρ', by simp [a1, b1, c1, slD, eT, cut_map], Nat.le_refl _, Nat.le_refl _, r'⟩⟩

end
end TL

namespace TL
open PySem PySem.Spec PyProof.Rows L2 DL
section
variable {σ σ' σ1 σ2 σ3 σb σc σd ι α β γ δ τ τ' : Type} {R : ER σ} {R' : ER σ'} {R1 : ER σ1} {R2 : ER σ2} {R3 : ER σ3} {e : α → D} {f : β → D} {h : γ → D} {lo hi lo1 hi1 lo2 hi2 h1 h2 k1 k2 : Nat} {i : Nat}
/-! tests -/
structure TT (R : ER σ) (f : Env' → Res (Bool × Env')) (F : σ → Option Bool) (R' : ER σ) : Prop where
  ex : ∀ s ρ, R s ρ → ∀ a, F s = some a → ∃ ρ', f ρ = .ok (a, ρ') ∧ R' s ρ'
structure TTX (R : ER σ) (f : Env' → Res (Bool × Env')) (F : σ → Option (Bool × σ')) (R' : ER σ') : Prop where
  ex : ∀ s ρ, R s ρ → ∀ a s', F s = some (a, s') → ∃ ρ', f ρ = .ok (a, ρ') ∧ R' s' ρ'
theorem TT.x {g : Env' → Res (Bool × Env')} {F : σ → Option Bool} {R' : ER σ} (q : TT R g F R') : TTX R g (tX F) R' := ⟨fun s ρ r a s' z => by
  simp only [tX, Option.map_eq_some_iff, Prod.mk.injEq] at z
  obtain ⟨b, z1, z2, z3⟩ := z
  subst z2 z3
  exact q.ex s ρ r b z1⟩
theorem TTX.p {g : Env' → Res (Bool × Env')} {F : σ → Option Bool} {G : σ → Option (Bool × σ)} {R' : ER σ} (q : TTX R g G R') (w : ∀ s, G s = (F s).map fun a => (a, s)) : TT R g F R' := ⟨fun s ρ r a z => q.ex s ρ r a s (by rw [w, z]; rfl)⟩
theorem ttx_val {g : EF} {F : σ → Option (Bool × σ')} (a : TX R g eB lo hi F R') : TTX R (valT g) F R' := ⟨fun s ρ r v s' z => by
  obtain ⟨n, ρ', a1, a2, a3, r'⟩ := a.ex s ρ r v s' z
  exact ⟨ρ', by simp [a1, eB], r'⟩⟩
theorem tt_val {g : EF} {F : σ → Option Bool} {R' : ER σ} (a : TE R g eB lo hi F R') : TT R (valT g) F R' := (ttx_val a.x).p fun s => rfl
theorem ttx_cmp {g : D × Nat → D × Nat → Option (D × Nat)} {o : α → β → Option Bool} {f1 : D2F} {F : σ → Option ((α × β) × σ')} (q : OpN g e h1 f h2 eB lo hi o) (a : TD R f1 e h1 f h2 F R') : TTX R (cmpT g f1) (tBnX o F) R' := ⟨fun s ρ r c s' z => by
  obtain ⟨⟨⟨x, y⟩, s1⟩, hx, z⟩ := bind_some' z
  simp only [Option.map_eq_some_iff, Prod.mk.injEq] at z
  obtain ⟨c', z1, z2, z3⟩ := z
  subst z2 z3
  obtain ⟨n, m, ρ', a1, a2, a3, r'⟩ := a.ex s ρ r x y s1 hx
  obtain ⟨k, b1, b2, b3⟩ := q.op x y c' n m a2 a3 z1
  exact ⟨ρ', by simp [a1, b1, eB], r'⟩⟩
theorem tt_cmp {g : D × Nat → D × Nat → Option (D × Nat)} {o : α → β → Option Bool} {f1 : D2F} {F : σ → Option (α × β)} {R' : ER σ} (q : OpN g e h1 f h2 eB lo hi o) (a : TDp R f1 e h1 f h2 F R') : TT R (cmpT g f1) (tBn o F) R' := (ttx_cmp q a.x).p fun s => by
  cases q : F s <;> simp [q]
theorem tt_chn {g g' : D → D → Option D} {o : α → β → Option Bool} {o' : β → γ → Option Bool} {f1 f2 f3 : PF} {F : σ → Option α} {G : σ → Option β} {H : σ → Option γ} (q : Op2 g e f eB o) (q' : Op2 g' f h eB o') (a : TP R f1 e k1 F) (b : TP R f2 f k2 G) (c : TP R f3 h h1 H) : TT R (chnT g g' f1 f2 f3) (tCh o o' F G H) R := ⟨fun s ρ r d hd => by
  obtain ⟨x, hx, hd⟩ := bind_some' hd
  obtain ⟨y, hy, hd⟩ := bind_some' hd
  obtain ⟨z, hz, hd⟩ := bind_some' hd
  obtain ⟨k, hk, hd⟩ := bind_some' hd
  obtain ⟨n, a1, _⟩ := a.ex s ρ r x hx
  obtain ⟨m, b1, _⟩ := b.ex s ρ r y hy
  obtain ⟨l, c1, _⟩ := c.ex s ρ r z hz
  have q1 := q.op x y k hk
  refine ⟨ρ, ?_, r⟩
  cases k with
  | false =>
    cases hd
    simp [a1, b1, c1, q1, eB]
  | true =>
    have q2 := q'.op y z d hd
    simp [a1, b1, c1, q1, q2, eB]⟩
@[simp] def tNot (F : σ → Option Bool) : σ → Option Bool := fun s => (F s).map fun b => !b
theorem tt_not {g : Env' → Res (Bool × Env')} {F : σ → Option Bool} {R' : ER σ} (a : TT R g F R') : TT R (notT g) (tNot F) R' := ⟨fun s ρ r v z => by
  simp only [tNot, Option.map_eq_some_iff] at z
  obtain ⟨b, z1, rfl⟩ := z
  obtain ⟨ρ', a1, r'⟩ := a.ex s ρ r b z1
  exact ⟨ρ', by simp [a1], r'⟩⟩
theorem te_not {g : EF} {F : σ → Option Bool} {R' : ER σ} (a : TE R g eB lo hi F R') : TE R (notE g) eB 0 0 (tNot F) R' := ⟨fun s ρ r v z => by
  simp only [tNot, Option.map_eq_some_iff] at z
  obtain ⟨b, z1, rfl⟩ := z
  obtain ⟨n, ρ', a1, a2, a3, r'⟩ := a.ex s ρ r b z1
  exact ⟨0, ρ', by simp [a1, eB], Nat.le_refl _, Nat.le_refl _, r'⟩⟩
@[simp] def tAnd (F G : σ → Option Bool) : σ → Option Bool := fun s => (F s).bind fun a => if a = true then G s else some false
@[simp] def tOr (F G : σ → Option Bool) : σ → Option Bool := fun s => (F s).bind fun a => if a = true then some true else G s
theorem tt_and {g1 g2 : Env' → Res (Bool × Env')} {F G : σ → Option Bool} {R1 R2 : ER σ} (a : TT R g1 F R1) (b : TT R1 g2 G R2) (w : Wk R1 (fun s => s) R2) : TT R (andR g1 g2) (tAnd F G) R2 := ⟨fun s ρ r v z => by
  obtain ⟨x, hx, z⟩ := bind_some' z
  obtain ⟨ρ1, a1, r1⟩ := a.ex s ρ r x hx
  cases x with
  | false => cases z; exact ⟨ρ1, by simp [a1], w.wk _ _ r1⟩
  | true =>
    obtain ⟨ρ2, b1, r2⟩ := b.ex s ρ1 r1 v z
    exact ⟨ρ2, by simp [a1, b1], r2⟩⟩
theorem tt_or {g1 g2 : Env' → Res (Bool × Env')} {F G : σ → Option Bool} {R1 R2 : ER σ} (a : TT R g1 F R1) (b : TT R1 g2 G R2) (w : Wk R1 (fun s => s) R2) : TT R (orR g1 g2) (tOr F G) R2 := ⟨fun s ρ r v z => by
  obtain ⟨x, hx, z⟩ := bind_some' z
  obtain ⟨ρ1, a1, r1⟩ := a.ex s ρ r x hx
  cases x with
  | true => cases z; exact ⟨ρ1, by simp [a1], w.wk _ _ r1⟩
  | false =>
    obtain ⟨ρ2, b1, r2⟩ := b.ex s ρ1 r1 v z
    exact ⟨ρ2, by simp [a1, b1], r2⟩⟩
@[simp] def tAndX (F : σ → Option (Bool × σ1)) (G : σ1 → Option (Bool × σ2)) (p : σ1 → σ2) : σ → Option (Bool × σ2) := fun s => (F s).bind fun a => if a.1 = true then G a.2 else some (false, p a.2)
@[simp] def tOrX (F : σ → Option (Bool × σ1)) (G : σ1 → Option (Bool × σ2)) (p : σ1 → σ2) : σ → Option (Bool × σ2) := fun s => (F s).bind fun a => if a.1 = true then some (true, p a.2) else G a.2
theorem ttx_and {g1 g2 : Env' → Res (Bool × Env')} {F : σ → Option (Bool × σ1)} {G : σ1 → Option (Bool × σ2)} {p : σ1 → σ2} (a : TTX R g1 F R1) (b : TTX R1 g2 G R2) (w : Wk R1 p R2) : TTX R (andR g1 g2) (tAndX F G p) R2 := ⟨fun s ρ r v s' z => by
  obtain ⟨⟨x, s1⟩, hx, z⟩ := bind_some' z
  obtain ⟨ρ1, a1, r1⟩ := a.ex s ρ r x s1 hx
  cases x with
  | false => cases z; exact ⟨ρ1, by simp [a1], w.wk _ _ r1⟩
  | true =>
    obtain ⟨ρ2, b1, r2⟩ := b.ex s1 ρ1 r1 v s' z
    exact ⟨ρ2, by simp [a1, b1], r2⟩⟩
theorem ttx_or {g1 g2 : Env' → Res (Bool × Env')} {F : σ → Option (Bool × σ1)} {G : σ1 → Option (Bool × σ2)} {p : σ1 → σ2} (a : TTX R g1 F R1) (b : TTX R1 g2 G R2) (w : Wk R1 p R2) : TTX R (orR g1 g2) (tOrX F G p) R2 := ⟨fun s ρ r v s' z => by
  obtain ⟨⟨x, s1⟩, hx, z⟩ := bind_some' z
  obtain ⟨ρ1, a1, r1⟩ := a.ex s ρ r x s1 hx
  cases x with
  | true => cases z; exact ⟨ρ1, by simp [a1], w.wk _ _ r1⟩
  | false =>
    obtain ⟨ρ2, b1, r2⟩ := b.ex s1 ρ1 r1 v s' z
    exact ⟨ρ2, by simp [a1, b1], r2⟩⟩
/-! and, or as values -/
theorem te_and {g1 g2 : EF} {F G : σ → Option Bool} {R1 R2 : ER σ} (a : TE R g1 eB lo1 hi1 F R1) (b : TE R1 g2 eB 0 0 G R2) (w : Wk R1 (fun s => s) R2) : TE R (andV g1 g2) eB 0 0 (tAnd F G) R2 := ⟨fun s ρ r v z => by
  obtain ⟨x, hx, z⟩ := bind_some' z
  obtain ⟨n, ρ1, a1, a2, a3, r1⟩ := a.ex s ρ r x hx
  cases x with
  | false => cases z; exact ⟨0, ρ1, by simp [a1, eB], Nat.le_refl _, Nat.le_refl _, w.wk _ _ r1⟩
  | true =>
    obtain ⟨m, ρ2, b1, b2, b3, r2⟩ := b.ex s ρ1 r1 v z
    exact ⟨m, ρ2, by simp [a1, b1, eB], b2, b3, r2⟩⟩
theorem te_or {g1 g2 : EF} {F G : σ → Option Bool} {R1 R2 : ER σ} (a : TE R g1 eB lo1 hi1 F R1) (b : TE R1 g2 eB 0 0 G R2) (w : Wk R1 (fun s => s) R2) : TE R (orV g1 g2) eB 0 0 (tOr F G) R2 := ⟨fun s ρ r v z => by
  obtain ⟨x, hx, z⟩ := bind_some' z
  obtain ⟨n, ρ1, a1, a2, a3, r1⟩ := a.ex s ρ r x hx
  cases x with
  | true => cases z; exact ⟨0, ρ1, by simp [a1, eB], Nat.le_refl _, Nat.le_refl _, w.wk _ _ r1⟩
  | false =>
    obtain ⟨m, ρ2, b1, b2, b3, r2⟩ := b.ex s ρ1 r1 v z
    exact ⟨m, ρ2, by simp [a1, b1, eB], b2, b3, r2⟩⟩
/-! one or the other -/
@[simp] def tIte (C : σ → Option Bool) (F G : σ → Option α) : σ → Option α := fun s => (C s).bind fun k => if k = true then F s else G s
@[simp] def tIteX (C : σ → Option (Bool × σ1)) (F G : σ1 → Option α) : σ → Option α := fun s => (C s).bind fun k => if k.1 = true then F k.2 else G k.2
theorem te_if {c : Env' → Res (Bool × Env')} {g1 g2 : EF} {C : σ → Option Bool} {F G : σ → Option α} {R1 R2 : ER σ} (q : TT R c C R1) (a : TE R1 g1 e lo hi F R2) (b : TE R1 g2 e lo hi G R2) : TE R (ifR c g1 g2) e lo hi (tIte C F G) R2 := ⟨fun s ρ r v z => by
  obtain ⟨x, hx, z⟩ := bind_some' z
  obtain ⟨ρ1, a1, r1⟩ := q.ex s ρ r x hx
  cases x with
  | true =>
    obtain ⟨m, ρ2, b1, b2⟩ := a.ex s ρ1 r1 v z
    exact ⟨m, ρ2, by simp [a1, b1], b2⟩
  | false =>
    obtain ⟨m, ρ2, b1, b2⟩ := b.ex s ρ1 r1 v z
    exact ⟨m, ρ2, by simp [a1, b1], b2⟩⟩
theorem tx_if {c : Env' → Res (Bool × Env')} {g1 g2 : EF} {C : σ → Option (Bool × σ1)} {F G : σ1 → Option (α × σ2)} (q : TTX R c C R1) (a : TX R1 g1 e lo hi F R2) (b : TX R1 g2 e lo hi G R2) : TX R (ifR c g1 g2) e lo hi (tIteX C F G) R2 := ⟨fun s ρ r v s' z => by
  obtain ⟨⟨x, s1⟩, hx, z⟩ := bind_some' z
  obtain ⟨ρ1, a1, r1⟩ := q.ex s ρ r x s1 hx
  cases x with
  | true =>
    obtain ⟨m, ρ2, b1, b2⟩ := a.ex s1 ρ1 r1 v s' z
    exact ⟨m, ρ2, by simp [a1, b1], b2⟩
  | false =>
    obtain ⟨m, ρ2, b1, b2⟩ := b.ex s1 ρ1 r1 v s' z
    exact ⟨m, ρ2, by simp [a1, b1], b2⟩⟩
/-! what is gone through -/
structure TI (R : ER σ) (g : AF) (e : α → D) (F : σ → Option (List α)) (R' : ER σ) : Prop where
  ex : ∀ s ρ, R s ρ → ∀ a, F s = some a → ∃ ρ', g ρ = .ok (a.map e, ρ') ∧ R' s ρ'
theorem ti_L {g : EF} {F : σ → Option (List α)} {R' : ER σ} (a : TE R g (eL e) lo hi F R') : TI R (seqD g) e F R' := ⟨fun s ρ r v z => by
  obtain ⟨n, ρ', a1, a2, a3, r'⟩ := a.ex s ρ r v z
  exact ⟨ρ', seqD_list a1, r'⟩⟩
theorem ti_T {g : EF} {F : σ → Option (List α)} {R' : ER σ} (a : TE R g (eT e) lo hi F R') : TI R (seqD g) e F R' := ⟨fun s ρ r v z => by
  obtain ⟨n, ρ', a1, a2, a3, r'⟩ := a.ex s ρ r v z
  exact ⟨ρ', seqD_tuple a1, r'⟩⟩
/-- 0 .. n - 1 -/
def rgT (i j : Int) : List Int := (List.range (j - i).toNat).map fun k => i + (k : Nat)
noncomputable def tRg (j : Int) : Option (List Int) := if Hd (-1000 ≤ j ∧ j < 1000000) then some (rgT 0 j) else none
noncomputable def tRg2 (i j : Int) : Option (List Int) := if Hd (-1000 ≤ i ∧ i < 1000000 ∧ -1000 ≤ j ∧ j < 1000000) then some (rgT i j) else none
theorem rng_rgT (i j : Int) : rngN i (j - i).toNat = (rgT i j).map eI := by
  rw [rngN, rgT, List.map_map]
  rfl
theorem ti_r1 {g : PF} {F : σ → Option Int} (a : TP R g eI hi F) : TI R (r1I (pO (consP g nilP))) eI (tOp1 tRg F) R := ⟨fun s ρ r v z => by
  obtain ⟨x, hx, z⟩ := bind_some' z
  obtain ⟨n, a1, a2⟩ := a.ex s ρ r x hx
  unfold tRg at z
  split at z
  · rename_i w
    cases z
    refine ⟨ρ, r1I_of (xs := [(.int x, n)]) (by simp [a1, eI]) ?_, r⟩
    rw [range1_int x n w.1 w.2, ← rng_rgT, Int.sub_zero]
  · cases z⟩
theorem ti_r1E {g : EF} {F : σ → Option Int} {R' : ER σ} (a : TE R g eI lo hi F R') : TI R (r1I (consO g nilO)) eI (tOp1 tRg F) R' := ⟨fun s ρ r v z => by
  obtain ⟨x, hx, z⟩ := bind_some' z
  obtain ⟨n, ρ', a1, a2, a3, r'⟩ := a.ex s ρ r x hx
  unfold tRg at z
  split at z
  · rename_i w
    cases z
    refine ⟨ρ', r1I_of (xs := [(.int x, n)]) (by simp [a1, eI]) ?_, r'⟩
    rw [range1_int x n w.1 w.2, ← rng_rgT, Int.sub_zero]
  · cases z⟩
theorem ti_r2 {g1 g2 : PF} {F G : σ → Option Int} (a : TP R g1 eI h1 F) (b : TP R g2 eI h2 G) : TI R (r2I (pO (consP g1 (consP g2 nilP)))) eI (tOp2 tRg2 F G) R := ⟨fun s ρ r v z => by
  obtain ⟨x, hx, z⟩ := bind_some' z
  obtain ⟨y, hy, z⟩ := bind_some' z
  obtain ⟨n, a1, a2⟩ := a.ex s ρ r x hx
  obtain ⟨m, b1, b2⟩ := b.ex s ρ r y hy
  unfold tRg2 at z
  split at z
  · rename_i w
    cases z
    refine ⟨ρ, r2I_of (xs := [(.int x, n), (.int y, m)]) (by simp [a1, b1, eI]) ?_, r⟩
    rw [range2_int x y n m w.1 w.2.1 w.2.2.1 w.2.2.2, ← rng_rgT]
  · cases z⟩
def tEnum (xs : List α) : List (Int × α) := xs.zipIdx.map fun p => ((p.2 : Int), p.1)
theorem enum_map (xs : List α) : enumD (xs.map e) = (tEnum xs).map (eP eI e) := by
  rw [enumD, tEnum, List.zipIdx_map, List.map_map, List.map_map]
  rfl
theorem ti_enL {g : EF} {F : σ → Option (List α)} {R' : ER σ} (a : TE R g (eL e) lo hi F R') : TI R (enum1 (consA g nilA)) (eP eI e) (fun s => (F s).map tEnum) R' := ⟨fun s ρ r v z => by
  simp only [Option.map_eq_some_iff] at z
  obtain ⟨x, hx, rfl⟩ := z
  obtain ⟨n, ρ', a1, a2, a3, r'⟩ := a.ex s ρ r x hx
  exact ⟨ρ', by simp [enum1, a1, eL, enum_map], r'⟩⟩
theorem ti_enT {g : EF} {F : σ → Option (List α)} {R' : ER σ} (a : TE R g (eT e) lo hi F R') : TI R (enum1 (consA g nilA)) (eP eI e) (fun s => (F s).map tEnum) R' := ⟨fun s ρ r v z => by
  simp only [Option.map_eq_some_iff] at z
  obtain ⟨x, hx, rfl⟩ := z
  obtain ⟨n, ρ', a1, a2, a3, r'⟩ := a.ex s ρ r x hx
  exact ⟨ρ', by simp [enum1, a1, eT, enum_map], r'⟩⟩
theorem zip_map2 (xs : List α) (ys : List β) : zipD (xs.map e) (ys.map f) = (xs.zip ys).map (eP e f) := by
  rw [zipD, List.zip_map, List.map_map]
  rfl
theorem ti_zipL {g1 g2 : EF} {F : σ → Option (List α)} {G : σ → Option (List β)} {R1 R2 : ER σ} (a : TE R g1 (eL e) lo1 hi1 F R1) (b : TE R1 g2 (eL f) lo2 hi2 G R2) : TI R (zip2 (consA g1 (consA g2 nilA))) (eP e f) (tOp2 (fun x y => some (x.zip y)) F G) R2 := ⟨fun s ρ r v z => by
  obtain ⟨x, hx, z⟩ := bind_some' z
  obtain ⟨y, hy, z⟩ := bind_some' z
  cases z
  obtain ⟨n, ρ1, a1, a2, a3, r1⟩ := a.ex s ρ r x hx
  obtain ⟨m, ρ2, b1, b2, b3, r2⟩ := b.ex s ρ1 r1 y hy
  exact ⟨ρ2, by simp [zip2, a1, b1, eL, zip_map2], r2⟩⟩
theorem ti_zipT {g1 g2 : EF} {F : σ → Option (List α)} {G : σ → Option (List β)} {R1 R2 : ER σ} (a : TE R g1 (eT e) lo1 hi1 F R1) (b : TE R1 g2 (eT f) lo2 hi2 G R2) : TI R (zip2 (consA g1 (consA g2 nilA))) (eP e f) (tOp2 (fun x y => some (x.zip y)) F G) R2 := ⟨fun s ρ r v z => by
  obtain ⟨x, hx, z⟩ := bind_some' z
  obtain ⟨y, hy, z⟩ := bind_some' z
  cases z
  obtain ⟨n, ρ1, a1, a2, a3, r1⟩ := a.ex s ρ r x hx
  obtain ⟨m, ρ2, b1, b2, b3, r2⟩ := b.ex s ρ1 r1 y hy
  exact ⟨ρ2, by simp [zip2, a1, b1, eT, zip_map2], r2⟩⟩
/-! list(range(n)), tuple(range(n)) -/
noncomputable def tRgN (j : Int) : Option (List Int) := if Hd (RgOk 0 j) then some (rgT 0 j) else none
theorem rngD_rgT (i j : Int) : rngD i j = (rgT i j).map eI := by
  rw [rngD, rgT, List.map_map]
  rfl
theorem te_lrg {g : EF} {F : σ → Option Int} {R' : ER σ} (a : TE R g eI lo hi F R') : TE R (lrgE (rg1 g)) (eL eI) 1 1 (tOp1 tRgN F) R' := ⟨fun s ρ r v z => by
  obtain ⟨x, hx, z⟩ := bind_some' z
  obtain ⟨n, ρ', a1, a2, a3, r'⟩ := a.ex s ρ r x hx
  unfold tRgN at z
  split at z
  · rename_i w
    cases z
    refine ⟨1, ρ', ?_, Nat.le_refl _, Nat.le_refl _, r'⟩
    have w : RgOk 0 x := w
    simp [a1, eI, w, eL, rngD_rgT]
  · cases z⟩
theorem te_trg {g : EF} {F : σ → Option Int} {R' : ER σ} (a : TE R g eI lo hi F R') : TE R (trgE (rg1 g)) (eT eI) 0 0 (tOp1 tRgN F) R' := ⟨fun s ρ r v z => by
  obtain ⟨x, hx, z⟩ := bind_some' z
  obtain ⟨n, ρ', a1, a2, a3, r'⟩ := a.ex s ρ r x hx
  unfold tRgN at z
  split at z
  · rename_i w
    cases z
    refine ⟨0, ρ', ?_, Nat.le_refl _, Nat.le_refl _, r'⟩
    have w : RgOk 0 x := w
    simp [a1, eI, w, eT, rngD_rgT]
  · cases z⟩
/-! targets -/
structure TG (R : ER σ) (g : GF) (e : α → D) (p : α → σ → σ') (R' : ER σ') : Prop where
  ex : ∀ s ρ a, R s ρ → ∃ ρ', g (e a) 0 ρ = .ok ρ' ∧ R' (p a s) ρ'
theorem tg_name {p : α → σ → σ'} (w : Put R i e 0 0 p R') : TG R (gNameD i) e p R' := ⟨fun s ρ a r => ⟨_, rfl, w.put s ρ a 0 r (Nat.le_refl _) (Nat.le_refl _)⟩⟩
theorem tg_2 {g1 g2 : GF} {p1 : α → σ → σ1} {p2 : β → σ1 → σ2} (a : TG R g1 e p1 R1) (b : TG R1 g2 f p2 R2) : TG R (gTupD (gConsD g1 (gConsD g2 gNilD))) (eP e f) (fun x s => p2 x.2 (p1 x.1 s)) R2 := ⟨fun s ρ x r => by
  obtain ⟨ρ1, a1, r1⟩ := a.ex s ρ x.1 r
  obtain ⟨ρ2, b1, r2⟩ := b.ex _ ρ1 x.2 r1
  exact ⟨ρ2, by simp [eP, gTupD, gConsD, gNilD, a1, b1], r2⟩⟩
theorem tg_3 {g1 g2 g3 : GF} {p1 : α → σ → σ1} {p2 : β → σ1 → σ2} {p3 : γ → σ2 → σ3} (a : TG R g1 e p1 R1) (b : TG R1 g2 f p2 R2) (c : TG R2 g3 h p3 R3) : TG R (gTupD (gConsD g1 (gConsD g2 (gConsD g3 gNilD)))) (eP3 e f h) (fun x s => p3 x.2.2 (p2 x.2.1 (p1 x.1 s))) R3 := ⟨fun s ρ x r => by
  obtain ⟨ρ1, a1, r1⟩ := a.ex s ρ x.1 r
  obtain ⟨ρ2, b1, r2⟩ := b.ex _ ρ1 x.2.1 r1
  obtain ⟨ρ3, c1, r3⟩ := c.ex _ ρ2 x.2.2 r2
  exact ⟨ρ3, by simp [eP3, gTupD, gConsD, gNilD, a1, b1, c1], r3⟩⟩
/-! comprehensions -/
structure Wp (R : ER σ) (vs : List Nat) (p : σ → σ') (R' : ER σ') : Prop where
  wp : ∀ s ρ, R s ρ → R' (p s) (wipeD ρ vs)
theorem wp_n : Wp R [] (fun s => s) R := ⟨fun _ _ h => h⟩
theorem wp_c {vs : List Nat} {v : Nat} {p : σ → σ1} {q : σ1 → σ2} (a : Wp R vs p R1) (b : Drp R1 v q R2) : Wp R (v :: vs) (fun s => q (p s)) R2 := ⟨fun s ρ r => b.drp _ _ _ (a.wp s ρ r)⟩
theorem wp_k {vs : List Nat} {p : σ → σ1} {q : σ1 → σ2} (a : Wp R vs p R1) (b : Wk R1 q R2) : Wp R vs (fun s => q (p s)) R2 := ⟨fun s ρ r => b.wk _ _ (a.wp s ρ r)⟩
structure Rst (R : ER σ) (vs : List Nat) (p : σ → σ') (R' : ER σ') : Prop where
  rst : ∀ s ρ ρ', R s ρ' → R' (p s) (restD ρ ρ' vs)
theorem rs_n : Rst R [] (fun s => s) R := ⟨fun _ _ _ h => h⟩
theorem rs_c {vs : List Nat} {v : Nat} {p : σ → σ1} {q : σ1 → σ2} (a : Rst R vs p R1) (b : Drp R1 v q R2) : Rst R (v :: vs) (fun s => q (p s)) R2 := ⟨fun s ρ ρ' r => b.drp _ _ _ (a.rst s ρ ρ' r)⟩
def compT (c : α → Option Bool) (g : α → Option β) : List α → Option (List β)
  | [] => some []
  | x :: xs => (c x).bind fun k => if k = true then (g x).bind fun y => (compT c g xs).map fun ys => y :: ys else compT c g xs
def mapT (g : α → Option β) : List α → Option (List β)
  | [] => some []
  | x :: xs => (g x).bind fun y => (mapT g xs).map fun ys => y :: ys
theorem compT_eq {c : α → Option Bool} {g : α → Option β} {p : α → Bool} {h : α → β} : ∀ {xs : List α}, (∀ x ∈ xs, c x = some (p x)) → (∀ x ∈ xs, p x = true → g x = some (h x)) → compT c g xs = some ((xs.filter p).map h)
  | [], _, _ => rfl
  | x :: xs, h1, h2 => by
    have ih := compT_eq (xs := xs) (fun y hy => h1 y (List.mem_cons_of_mem _ hy)) fun y hy => h2 y (List.mem_cons_of_mem _ hy)
    unfold compT
    rw [h1 x List.mem_cons_self, ih, Option.bind_some]
    cases q : p x with
    | true => rw [if_pos rfl, h2 x List.mem_cons_self q, List.filter_cons_of_pos q]; rfl
    | false => rw [if_neg (by simp), List.filter_cons_of_neg (by simp [q])]
theorem mapT_eq {g : α → Option β} {h : α → β} : ∀ {xs : List α}, (∀ x ∈ xs, g x = some (h x)) → mapT g xs = some (xs.map h)
  | [], _ => rfl
  | x :: xs, h1 => by
    have ih := mapT_eq (xs := xs) fun y hy => h1 y (List.mem_cons_of_mem _ hy)
    unfold mapT
    rw [h1 x List.mem_cons_self, ih]
    rfl
@[simp] noncomputable def tLc (FI : σ → Option (List α)) (pu : α → σ → σ1) (Fc : σ1 → Option Bool) (Ff : σ1 → Option β) : σ → Option (List β) := fun s => (FI s).bind fun xs => if Sh xs then compT (fun x => Fc (pu x s)) (fun x => Ff (pu x s)) xs else none
@[simp] noncomputable def tLm (FI : σ → Option (List α)) (pu : α → σ → σ1) (Ff : σ1 → Option β) : σ → Option (List β) := fun s => (FI s).bind fun xs => if Sh xs then mapT (fun x => Ff (pu x s)) xs else none
theorem te_lc {fi : AF} {g : GF} {c : Env' → Res (Bool × Env')} {f1 : EF} {vs : List Nat} {FI : σ → Option (List α)} {pu : α → σ → σb} {Fc : σb → Option Bool} {Ff : σb → Option β} {p1 p4 : σ → σ} {q2 q3 : σb → σ} {R1 Rw R4 : ER σ} {Rb Rc Rd : ER σb} (it : TI R fi e FI R1) (w1 : Wp R1 vs p1 Rw) (tg : TG Rw g e pu Rb) (tc : TT Rb c Fc Rc) (w2 : Wp Rc vs q2 Rw) (tf : TE Rc f1 f lo hi Ff Rd) (w3 : Wp Rd vs q3 Rw) (w4 : Rst Rw vs p4 R4)
    (e1 : ∀ s, p1 s = s := by exact fun _ => rfl) (e2 : ∀ x s, q2 (pu x s) = s := by exact fun _ _ => rfl) (e3 : ∀ x s, q3 (pu x s) = s := by exact fun _ _ => rfl) (e4 : ∀ s, p4 s = s := by exact fun _ => rfl) : TE R (lcF fi g c f1 vs) (eL f) 1 1 (tLc FI pu Fc Ff) R4 := ⟨fun s ρ r v z => by
  obtain ⟨xs, hx, z⟩ := bind_some' z
  obtain ⟨ρ1, a1, r1⟩ := it.ex s ρ r xs hx
  split at z
  case isFalse => cases z
  rename_i hl
  have core : ∀ (xs : List α) (ρ : Env') (ys : List β), Rw s ρ → compT (fun x => Fc (pu x s)) (fun x => Ff (pu x s)) xs = some ys → ∃ ρ', compF g c f1 vs (xs.map e) ρ = .ok (ys.map f, ρ') ∧ Rw s ρ' := by
    intro xs
    induction xs with
    | nil => intro ρ ys r z; cases z; exact ⟨ρ, rfl, r⟩
    | cons x xs ih =>
      intro ρ ys r z
      unfold compT at z
      obtain ⟨k, hk, z⟩ := bind_some' z
      obtain ⟨ρ1, b1, rb⟩ := tg.ex s ρ x r
      obtain ⟨ρ2, b2, rc⟩ := tc.ex _ ρ1 rb k hk
      rw [List.map_cons]
      unfold compF
      rw [b1]
      dsimp only
      rw [b2]
      cases k with
      | true =>
        rw [if_pos rfl] at z
        obtain ⟨y, hy, z⟩ := bind_some' z
        simp only [Option.map_eq_some_iff] at z
        obtain ⟨ys', hys, rfl⟩ := z
        obtain ⟨n, ρ3, b3, _, _, rd⟩ := tf.ex _ ρ2 rc y hy
        have rw3 := w3.wp _ _ rd
        rw [e3] at rw3
        obtain ⟨ρ4, b4, r4⟩ := ih _ ys' rw3 hys
        exact ⟨ρ4, by simp [b3, b4], r4⟩
      | false =>
        rw [if_neg (by simp)] at z
        have rw2 := w2.wp _ _ rc
        rw [e2] at rw2
        obtain ⟨ρ4, b4, r4⟩ := ih _ ys rw2 z
        exact ⟨ρ4, by simp [b4], r4⟩
  have rw1 := w1.wp _ _ r1
  rw [e1] at rw1
  obtain ⟨ρ2, a2, r2⟩ := core xs _ v rw1 z
  have r4 := w4.rst s ρ1 ρ2 r2
  rw [e4] at r4
  exact ⟨1, _, lcF_eq a1 (by rw [List.length_map]; exact hl) a2, Nat.le_refl _, Nat.le_refl _, r4⟩⟩
theorem te_lm {fi : AF} {g : GF} {f1 : EF} {vs : List Nat} {FI : σ → Option (List α)} {pu : α → σ → σb} {Ff : σb → Option β} {p1 p4 : σ → σ} {q3 : σb → σ} {R1 Rw R4 : ER σ} {Rb Rd : ER σb} (it : TI R fi e FI R1) (w1 : Wp R1 vs p1 Rw) (tg : TG Rw g e pu Rb) (tf : TE Rb f1 f lo hi Ff Rd) (w3 : Wp Rd vs q3 Rw) (w4 : Rst Rw vs p4 R4)
    (e1 : ∀ s, p1 s = s := by exact fun _ => rfl) (e3 : ∀ x s, q3 (pu x s) = s := by exact fun _ _ => rfl) (e4 : ∀ s, p4 s = s := by exact fun _ => rfl) : TE R (lcF fi g yesT f1 vs) (eL f) 1 1 (tLm FI pu Ff) R4 := ⟨fun s ρ r v z => by
  obtain ⟨xs, hx, z⟩ := bind_some' z
  obtain ⟨ρ1, a1, r1⟩ := it.ex s ρ r xs hx
  split at z
  case isFalse => cases z
  rename_i hl
  have core : ∀ (xs : List α) (ρ : Env') (ys : List β), Rw s ρ → mapT (fun x => Ff (pu x s)) xs = some ys → ∃ ρ', compF g yesT f1 vs (xs.map e) ρ = .ok (ys.map f, ρ') ∧ Rw s ρ' := by
    intro xs
    induction xs with
    | nil => intro ρ ys r z; cases z; exact ⟨ρ, rfl, r⟩
    | cons x xs ih =>
      intro ρ ys r z
      unfold mapT at z
      obtain ⟨y, hy, z⟩ := bind_some' z
      simp only [Option.map_eq_some_iff] at z
      obtain ⟨ys', hys, rfl⟩ := z
      obtain ⟨ρ1, b1, rb⟩ := tg.ex s ρ x r
      obtain ⟨n, ρ3, b3, _, _, rd⟩ := tf.ex _ ρ1 rb y hy
      have rw3 := w3.wp _ _ rd
      rw [e3] at rw3
      obtain ⟨ρ4, b4, r4⟩ := ih _ ys' rw3 hys
      refine ⟨ρ4, ?_, r4⟩
      rw [List.map_cons]
      unfold compF
      rw [b1]
      simp [yesT, b3, b4]
  have rw1 := w1.wp _ _ r1
  rw [e1] at rw1
  obtain ⟨ρ2, a2, r2⟩ := core xs _ v rw1 z
  have r4 := w4.rst s ρ1 ρ2 r2
  rw [e4] at r4
  exact ⟨1, _, lcF_eq a1 (by rw [List.length_map]; exact hl) a2, Nat.le_refl _, Nat.le_refl _, r4⟩⟩
/-- new lists, each owned -/
theorem te_lo {fi : AF} {g : GF} {f1 : EF} {vs : List Nat} {FI : σ → Option (List α)} {pu : α → σ → σb} {Ff : σb → Option β} {p1 p4 : σ → σ} {q3 : σb → σ} {R1 Rw R4 : ER σ} {Rb Rd : ER σb} (it : TI R fi e FI R1) (w1 : Wp R1 vs p1 Rw) (tg : TG Rw g e pu Rb) (tf : TE Rb f1 f 1 1 Ff Rd) (w3 : Wp Rd vs q3 Rw) (w4 : Rst Rw vs p4 R4)
    (e1 : ∀ s, p1 s = s := by exact fun _ => rfl) (e3 : ∀ x s, q3 (pu x s) = s := by exact fun _ _ => rfl) (e4 : ∀ s, p4 s = s := by exact fun _ => rfl) : TE R (lcO fi g f1 vs) (eL f) 2 2 (tLm FI pu Ff) R4 := ⟨fun s ρ r v z => by
  obtain ⟨xs, hx, z⟩ := bind_some' z
  obtain ⟨ρ1, a1, r1⟩ := it.ex s ρ r xs hx
  split at z
  case isFalse => cases z
  rename_i hl
  have core : ∀ (xs : List α) (ρ : Env') (ys : List β), Rw s ρ → mapT (fun x => Ff (pu x s)) xs = some ys → ∃ ρ', compO g f1 vs (xs.map e) ρ = .ok (ys.map f, ρ') ∧ Rw s ρ' := by
    intro xs
    induction xs with
    | nil => intro ρ ys r z; cases z; exact ⟨ρ, rfl, r⟩
    | cons x xs ih =>
      intro ρ ys r z
      unfold mapT at z
      obtain ⟨y, hy, z⟩ := bind_some' z
      simp only [Option.map_eq_some_iff] at z
      obtain ⟨ys', hys, rfl⟩ := z
      obtain ⟨ρ1, b1, rb⟩ := tg.ex s ρ x r
      obtain ⟨n, ρ3, b3, hn1, hn2, rd⟩ := tf.ex _ ρ1 rb y hy
      have hn : n = 1 := by omega
      subst hn
      have rw3 := w3.wp _ _ rd
      rw [e3] at rw3
      obtain ⟨ρ4, b4, r4⟩ := ih _ ys' rw3 hys
      refine ⟨ρ4, ?_, r4⟩
      rw [List.map_cons]
      unfold compO
      rw [b1]
      simp [b3, b4]
  have rw1 := w1.wp _ _ r1
  rw [e1] at rw1
  obtain ⟨ρ2, a2, r2⟩ := core xs _ v rw1 z
  have r4 := w4.rst s ρ1 ρ2 r2
  rw [e4] at r4
  exact ⟨2, _, lcO_eq a1 (by rw [List.length_map]; exact hl) a2, Nat.le_refl _, Nat.le_refl _, r4⟩⟩
/-! .. that change what stands at a place -/
def compX (b : α → σ → Option (Option β × σ)) : List α → σ → Option (List β × σ)
  | [], s => some ([], s)
  | x :: xs, s => (b x s).bind fun p => (compX b xs p.2).map fun q => ((match p.1 with | none => q.1 | some y => y :: q.1), q.2)
@[simp] noncomputable def tLx (FI : σ → Option (List α)) (pu : α → σ → σb) (Fc : σb → Option (Bool × σc)) (Ff : σc → Option (β × σd)) (q2 : σc → σ) (q3 : σd → σ) : σ → Option (List β × σ) := fun s => (FI s).bind fun xs => if Sh xs then compX (fun x s => (Fc (pu x s)).bind fun k => if k.1 = true then (Ff k.2).map fun y => (some y.1, q3 y.2) else some (none, q2 k.2)) xs s else none
theorem tx_lc {fi : AF} {g : GF} {c : Env' → Res (Bool × Env')} {f1 : EF} {vs : List Nat} {FI : σ → Option (List α)} {pu : α → σ → σb} {Fc : σb → Option (Bool × σc)} {Ff : σc → Option (β × σd)} {p1 p4 : σ → σ} {q2 : σc → σ} {q3 : σd → σ} {R1 Rw R4 : ER σ} {Rb : ER σb} {Rc : ER σc} {Rd : ER σd} (it : TI R fi e FI R1) (w1 : Wp R1 vs p1 Rw) (tg : TG Rw g e pu Rb) (tc : TTX Rb c Fc Rc) (w2 : Wp Rc vs q2 Rw) (tf : TX Rc f1 f lo hi Ff Rd) (w3 : Wp Rd vs q3 Rw) (w4 : Rst Rw vs p4 R4)
    (e1 : ∀ s, p1 s = s := by exact fun _ => rfl) (e4 : ∀ s, p4 s = s := by exact fun _ => rfl) : TX R (lcF fi g c f1 vs) (eL f) 1 1 (tLx FI pu Fc Ff q2 q3) R4 := ⟨fun s ρ r v s' z => by
  obtain ⟨xs, hx, z⟩ := bind_some' z
  obtain ⟨ρ1, a1, r1⟩ := it.ex s ρ r xs hx
  split at z
  case isFalse => cases z
  rename_i hl
  have core : ∀ (xs : List α) (s : σ) (ρ : Env') (ys : List β) (s' : σ), Rw s ρ → compX (fun x s => (Fc (pu x s)).bind fun k => if k.1 = true then (Ff k.2).map fun y => (some y.1, q3 y.2) else some (none, q2 k.2)) xs s = some (ys, s') → ∃ ρ', compF g c f1 vs (xs.map e) ρ = .ok (ys.map f, ρ') ∧ Rw s' ρ' := by
    intro xs
    induction xs with
    | nil => intro s ρ ys s' r z; cases z; exact ⟨ρ, rfl, r⟩
    | cons x xs ih =>
      intro s ρ ys s' r z
      unfold compX at z
      obtain ⟨⟨oy, s2⟩, hb, z⟩ := bind_some' z
      simp only [Option.map_eq_some_iff, Prod.mk.injEq] at z
      obtain ⟨⟨ys', s3⟩, hys, z1, z2⟩ := z
      subst z2
      obtain ⟨⟨k, sc⟩, hk, hb⟩ := bind_some' hb
      obtain ⟨ρ1, b1, rb⟩ := tg.ex s ρ x r
      obtain ⟨ρ2, b2, rc⟩ := tc.ex _ ρ1 rb k sc hk
      rw [List.map_cons]
      unfold compF
      rw [b1]
      dsimp only
      rw [b2]
      cases k with
      | true =>
        rw [if_pos rfl] at hb
        simp only [Option.map_eq_some_iff, Prod.mk.injEq] at hb
        obtain ⟨⟨y, sd⟩, hy, z3, z4⟩ := hb
        subst z3 z4
        dsimp only at z1
        subst z1
        obtain ⟨n, ρ3, b3, _, _, rd⟩ := tf.ex _ ρ2 rc y sd hy
        obtain ⟨ρ4, b4, r4⟩ := ih _ _ ys' _ (w3.wp _ _ rd) hys
        exact ⟨ρ4, by simp [b3, b4], r4⟩
      | false =>
        rw [if_neg (by simp)] at hb
        cases hb
        dsimp only at z1
        subst z1
        obtain ⟨ρ4, b4, r4⟩ := ih _ _ _ _ (w2.wp _ _ rc) hys
        exact ⟨ρ4, by simp [b4], r4⟩
  have rw1 := w1.wp _ _ r1
  rw [e1] at rw1
  obtain ⟨ρ2, a2, r2⟩ := core xs s _ v s' rw1 z
  have r4 := w4.rst s' ρ1 ρ2 r2
  rw [e4] at r4
  exact ⟨1, _, lcF_eq a1 (by rw [List.length_map]; exact hl) a2, Nat.le_refl _, Nat.le_refl _, r4⟩⟩
theorem tt_yes : TT R yesT (tK true) R := ⟨fun s ρ r a z => by cases z; exact ⟨ρ, rfl, r⟩⟩
end
end TL

namespace TL
open PySem PySem.Spec PyProof.Rows L2 DL
/-- how a statement ends -/
inductive Fo (τ ι σ l : Type) where
  | nx (s : σ)
  | bk (s : l)
  | ct (s : l)
  | rt (v : τ) (i : ι)
section
variable {σ σ' σ1 σ2 σ3 σb σc σd ι α β γ δ τ τ' l l' : Type} {R : ER σ} {R' : ER σ'} {R1 : ER σ1} {R2 : ER σ2} {R3 : ER σ3} {RI : ER ι} {RL : ER l} {RL' : ER l'} {e : α → D} {f : β → D} {h : γ → D} {et : τ → D} {lo hi lo1 hi1 lo2 hi2 h1 h2 k1 k2 a b : Nat} {i j : Nat}
def FoOk (et : τ → D) (lo hi : Nat) (RI : ER ι) (RL : ER l) (R' : ER σ') (r : Res (Fl × Env')) : Fo τ ι σ' l → Prop
  | .nx s => ∃ ρ', r = .ok (.nx, ρ') ∧ R' s ρ'
  | .bk s => ∃ ρ', r = .ok (.bk, ρ') ∧ RL s ρ'
  | .ct s => ∃ ρ', r = .ok (.ct, ρ') ∧ RL s ρ'
  | .rt v i => ∃ n ρ', r = .ok (.rt (et v) n, ρ') ∧ lo ≤ n ∧ n ≤ hi ∧ RI i ρ'
structure TS (R : ER σ) (f : SF) (et : τ → D) (lo hi : Nat) (RI : ER ι) (RL : ER l) (F : σ → Option (Fo τ ι σ' l)) (R' : ER σ') : Prop where
  ex : ∀ s ρ, R s ρ → ∀ o, F s = some o → FoOk et lo hi RI RL R' (f ρ) o
@[simp] def tSeq (F : σ → Option (Fo τ ι σ1 l)) (G : σ1 → Option (Fo τ ι σ2 l)) : σ → Option (Fo τ ι σ2 l) := fun s => (F s).bind fun o => match o with
  | .nx s' => G s'
  | .bk s' => some (.bk s')
  | .ct s' => some (.ct s')
  | .rt v i => some (.rt v i)
theorem ts_seq {f1 f2 : SF} {F : σ → Option (Fo τ ι σ1 l)} {G : σ1 → Option (Fo τ ι σ2 l)} (q : TS R f1 et a b RI RL F R1) (w : TS R1 f2 et a b RI RL G R2) : TS R (seqF f1 f2) et a b RI RL (tSeq F G) R2 := ⟨fun s ρ r o z => by
  obtain ⟨o1, h1, z⟩ := bind_some' z
  have q1 := q.ex s ρ r o1 h1
  cases o1 with
  | nx s' =>
    obtain ⟨ρ', a1, r'⟩ := q1
    have := w.ex s' ρ' r' o z
    simpa [a1] using this
  | bk s' =>
    cases z
    obtain ⟨ρ', a1, r'⟩ := q1
    exact ⟨ρ', by simp [a1], r'⟩
  | ct s' =>
    cases z
    obtain ⟨ρ', a1, r'⟩ := q1
    exact ⟨ρ', by simp [a1], r'⟩
  | rt v i =>
    cases z
    obtain ⟨n, ρ', a1, r'⟩ := q1
    exact ⟨n, ρ', by simp [a1], r'⟩⟩
@[simp] def tNx : σ → Option (Fo τ ι σ l) := fun s => some (.nx s)
theorem ts_nil : TS R nilS et a b RI RL tNx R := ⟨fun s ρ r o z => by cases z; exact ⟨ρ, rfl, r⟩⟩
/-- the state told otherwise ahead of a statement -/
@[simp] def tPre (p : σ → σ1) (F : σ1 → Option α) : σ → Option α := fun s => F (p s)
theorem ts_pre {f1 : SF} {p : σ → σ1} {F : σ1 → Option (Fo τ ι σ2 l)} (w : Wk R p R1) (q : TS R1 f1 et a b RI RL F R2) : TS R f1 et a b RI RL (tPre p F) R2 := ⟨fun s ρ r o z => q.ex _ ρ (w.wk s ρ r) o z⟩
/-- .. and behind it -/
@[simp] def tPost (p : σ1 → σ2) (F : σ → Option (Fo τ ι σ1 l)) : σ → Option (Fo τ ι σ2 l) := fun s => (F s).map fun o => match o with
  | .nx s' => .nx (p s')
  | .bk s' => .bk s'
  | .ct s' => .ct s'
  | .rt v i => .rt v i
theorem ts_post {f1 : SF} {p : σ1 → σ2} {F : σ → Option (Fo τ ι σ1 l)} (q : TS R f1 et a b RI RL F R1) (w : Wk R1 p R2) : TS R f1 et a b RI RL (tPost p F) R2 := ⟨fun s ρ r o z => by
  simp only [tPost, Option.map_eq_some_iff] at z
  obtain ⟨o1, h1, rfl⟩ := z
  have q1 := q.ex s ρ r o1 h1
  cases o1 with
  | nx s' =>
    obtain ⟨ρ', a1, r'⟩ := q1
    exact ⟨ρ', a1, w.wk _ _ r'⟩
  | bk s' => exact q1
  | ct s' => exact q1
  | rt v i => exact q1⟩
theorem ts_ifX {c : Env' → Res (Bool × Env')} {f1 f2 : SF} {C : σ → Option (Bool × σ1)} {F G : σ1 → Option (Fo τ ι σ2 l)} (q : TTX R c C R1) (x : TS R1 f1 et a b RI RL F R2) (y : TS R1 f2 et a b RI RL G R2) : TS R (ifS c f1 f2) et a b RI RL (tIteX C F G) R2 := ⟨fun s ρ r o z => by
  obtain ⟨⟨k, s1⟩, hk, z⟩ := bind_some' z
  obtain ⟨ρ1, a1, r1⟩ := q.ex s ρ r k s1 hk
  cases k with
  | true => have := x.ex s1 ρ1 r1 o z; simpa [a1] using this
  | false => have := y.ex s1 ρ1 r1 o z; simpa [a1] using this⟩
theorem ts_if {c : Env' → Res (Bool × Env')} {f1 f2 : SF} {C : σ → Option Bool} {F G : σ → Option (Fo τ ι σ2 l)} {R1 : ER σ} (q : TT R c C R1) (x : TS R1 f1 et a b RI RL F R2) (y : TS R1 f2 et a b RI RL G R2) : TS R (ifS c f1 f2) et a b RI RL (tIte C F G) R2 := ⟨fun s ρ r o z => by
  obtain ⟨k, hk, z⟩ := bind_some' z
  obtain ⟨ρ1, a1, r1⟩ := q.ex s ρ r k hk
  cases k with
  | true => have := x.ex s ρ1 r1 o z; simpa [a1] using this
  | false => have := y.ex s ρ1 r1 o z; simpa [a1] using this⟩
@[simp] def tAsg (F : σ → Option α) (pu : α → σ → σ2) : σ → Option (Fo τ ι σ2 l) := fun s => (F s).map fun v => .nx (pu v s)
@[simp] def tAsgX (F : σ → Option (α × σ1)) (pu : α → σ1 → σ2) : σ → Option (Fo τ ι σ2 l) := fun s => (F s).map fun v => .nx (pu v.1 v.2)
theorem ts_asgX {f1 : EF} {F : σ → Option (α × σ1)} {pu : α → σ1 → σ2} (q : TX R f1 e lo hi F R1) (w : Put R1 i e lo hi pu R2) : TS R (asgF f1 (gNameD i)) et a b RI RL (tAsgX F pu) R2 := ⟨fun s ρ r o z => by
  simp only [tAsgX, Option.map_eq_some_iff] at z
  obtain ⟨⟨v, s1⟩, h1, rfl⟩ := z
  obtain ⟨n, ρ', a1, a2, a3, r'⟩ := q.ex s ρ r v s1 h1
  exact ⟨_, by simp [a1], w.put _ _ _ _ r' a2 a3⟩⟩
theorem ts_asg {f1 : EF} {F : σ → Option α} {pu : α → σ → σ2} {R1 : ER σ} (q : TE R f1 e lo hi F R1) (w : Put R1 i e lo hi pu R2) : TS R (asgF f1 (gNameD i)) et a b RI RL (tAsg F pu) R2 := ⟨fun s ρ r o z => by
  simp only [tAsg, Option.map_eq_some_iff] at z
  obtain ⟨v, h1, rfl⟩ := z
  obtain ⟨n, ρ', a1, a2, a3, r'⟩ := q.ex s ρ r v h1
  exact ⟨_, by simp [a1], w.put _ _ _ _ r' a2 a3⟩⟩
/-- a, b = display -/
theorem gTup_flag (g : List D → Env' → Res Env') (d : D) (n : Nat) (ρ : Env') : gTupD g d n ρ = gTupD g d 0 ρ := rfl
theorem ts_asgTX {f1 : EF} {g : List D → Env' → Res Env'} {F : σ → Option (α × σ1)} {pu : α → σ1 → σ2} (q : TX R f1 e lo hi F R1) (w : TG R1 (gTupD g) e pu R2) : TS R (asgF f1 (gTupD g)) et a b RI RL (tAsgX F pu) R2 := ⟨fun s ρ r o z => by
  simp only [tAsgX, Option.map_eq_some_iff] at z
  obtain ⟨⟨v, s1⟩, h1, rfl⟩ := z
  obtain ⟨n, ρ', a1, a2, a3, r'⟩ := q.ex s ρ r v s1 h1
  obtain ⟨ρ2, b1, r2⟩ := w.ex _ _ v r'
  exact ⟨ρ2, by simp only [asgF_eq, a1, bind_ok, gTup_flag _ _ n, b1], r2⟩⟩
theorem ts_asgT {f1 : EF} {g : List D → Env' → Res Env'} {F : σ → Option α} {pu : α → σ → σ2} {R1 : ER σ} (q : TE R f1 e lo hi F R1) (w : TG R1 (gTupD g) e pu R2) : TS R (asgF f1 (gTupD g)) et a b RI RL (tAsg F pu) R2 := ⟨fun s ρ r o z => by
  simp only [tAsg, Option.map_eq_some_iff] at z
  obtain ⟨v, h1, rfl⟩ := z
  obtain ⟨n, ρ', a1, a2, a3, r'⟩ := q.ex s ρ r v h1
  obtain ⟨ρ2, b1, r2⟩ := w.ex _ _ v r'
  exact ⟨ρ2, by simp only [asgF_eq, a1, bind_ok, gTup_flag _ _ n, b1], r2⟩⟩
/-- a, b = x, y -/
@[simp] def tPar (F : σ → Option (α × σ1)) (G : σ1 → Option (β × σ2)) (pu : α → σ2 → σ3) (pw : β → σ3 → σ') : σ → Option (Fo τ ι σ' l) := fun s => (F s).bind fun x => (G x.2).map fun y => .nx (pw y.1 (pu x.1 y.2))
theorem ts_par {f1 f2 : EF} {F : σ → Option (α × σ1)} {G : σ1 → Option (β × σ2)} {pu : α → σ2 → σ3} {pw : β → σ3 → σ'} (x : TX R f1 e lo1 hi1 F R1) (y : TX R1 f2 f lo2 hi2 G R2) (p : Put R2 i e lo1 hi1 pu R3) (q : Put R3 j f lo2 hi2 pw R') : TS R (parF i j (consO f1 (consO f2 nilO))) et a b RI RL (tPar F G pu pw) R' := ⟨fun s ρ r o z => by
  obtain ⟨⟨v, s1⟩, h1, z⟩ := bind_some' z
  simp only [Option.map_eq_some_iff] at z
  obtain ⟨⟨u, s2⟩, h2, rfl⟩ := z
  obtain ⟨n, ρ1, a1, a2, a3, r1⟩ := x.ex s ρ r v s1 h1
  obtain ⟨m, ρ2, b1, b2, b3, r2⟩ := y.ex s1 ρ1 r1 u s2 h2
  exact ⟨_, by simp [parF, a1, b1], q.put _ _ _ _ (p.put _ _ _ _ r2 a2 a3) b2 b3⟩⟩
@[simp] def tPar3 {σ4 σ5 : Type} (F : σ → Option (α × σ1)) (G : σ1 → Option (β × σ2)) (H : σ2 → Option (γ × σ3)) (pu : α → σ3 → σ4) (pw : β → σ4 → σ5) (px : γ → σ5 → σ') : σ → Option (Fo τ ι σ' l) := fun s => (F s).bind fun x => (G x.2).bind fun y => (H y.2).map fun z => .nx (px z.1 (pw y.1 (pu x.1 z.2)))
theorem ts_par3 {σ4 σ5 : Type} {R4 : ER σ4} {R5 : ER σ5} {k lo3 hi3 : Nat} {f1 f2 f3 : EF} {F : σ → Option (α × σ1)} {G : σ1 → Option (β × σ2)} {H : σ2 → Option (γ × σ3)} {pu : α → σ3 → σ4} {pw : β → σ4 → σ5} {px : γ → σ5 → σ'} (x : TX R f1 e lo1 hi1 F R1) (y : TX R1 f2 f lo2 hi2 G R2) (z : TX R2 f3 h lo3 hi3 H R3) (p : Put R3 i e lo1 hi1 pu R4) (q : Put R4 j f lo2 hi2 pw R5) (u : Put R5 k h lo3 hi3 px R') : TS R (par3F i j k (consO f1 (consO f2 (consO f3 nilO)))) et a b RI RL (tPar3 F G H pu pw px) R' := ⟨fun s ρ r o zz => by
  obtain ⟨⟨v, s1⟩, h1, zz⟩ := bind_some' zz
  obtain ⟨⟨w, s2⟩, h2, zz⟩ := bind_some' zz
  simp only [Option.map_eq_some_iff] at zz
  obtain ⟨⟨t, s3⟩, h3, rfl⟩ := zz
  obtain ⟨n, ρ1, a1, a2, a3, r1⟩ := x.ex s ρ r v s1 h1
  obtain ⟨m, ρ2, b1, b2, b3, r2⟩ := y.ex s1 ρ1 r1 w s2 h2
  obtain ⟨o, ρ3, c1, c2, c3, r3⟩ := z.ex s2 ρ2 r2 t s3 h3
  exact ⟨_, by simp [par3F, a1, b1, c1], u.put _ _ _ _ (q.put _ _ _ _ (p.put _ _ _ _ r3 a2 a3) b2 b3) c2 c3⟩⟩
theorem ts_aug {f1 : EF} {k : Int → Int → Int} {g : σ → Int} {F : σ → Option Int} {pu : Int → σ → σ2} {R1 : ER σ} (w : Get R i g eI lo1 hi1) (q : TE R f1 eI lo hi F R1) (p : Put R1 i eI 0 0 pu R2) : TS R (augF i k f1) et a b RI RL (tAsg (fun s => (F s).map fun v => k (g s) v) pu) R2 := ⟨fun s ρ r o z => by
  simp only [tAsg, Option.map_eq_some_iff] at z
  obtain ⟨v, ⟨u, h1, rfl⟩, rfl⟩ := z
  obtain ⟨n, c1, _⟩ := w.get s ρ r
  obtain ⟨m, ρ', a1, a2, a3, r'⟩ := q.ex s ρ r u h1
  refine ⟨_, ?_, p.put _ _ _ 0 r' (Nat.le_refl _) (Nat.le_refl _)⟩
  simp only [augF, c1, eI, a1, bind_ok]⟩
theorem ts_augX {f1 : EF} {k : Int → Int → Int} {g : σ → Int} {F : σ → Option (Int × σ1)} {pu : Int → σ1 → σ2} (w : Get R i g eI lo1 hi1) (q : TX R f1 eI lo hi F R1) (p : Put R1 i eI 0 0 pu R2) : TS R (augF i k f1) et a b RI RL (tAsgX (fun s => (F s).map fun v => (k (g s) v.1, v.2)) pu) R2 := ⟨fun s ρ r o z => by
  simp only [tAsgX, Option.map_eq_some_iff] at z
  obtain ⟨v, ⟨u, h1, rfl⟩, rfl⟩ := z
  obtain ⟨n, c1, _⟩ := w.get s ρ r
  obtain ⟨m, ρ', a1, a2, a3, r'⟩ := q.ex s ρ r u.1 u.2 h1
  refine ⟨_, ?_, p.put _ _ _ 0 r' (Nat.le_refl _) (Nat.le_refl _)⟩
  simp only [augF, c1, eI, a1, bind_ok]⟩
theorem ts_exp {f1 : EF} {F : σ → Option (α × σ1)} (q : TX R f1 e lo hi F R1) : TS R (expS f1) et a b RI RL (fun s => (F s).map fun v => .nx v.2) R1 := ⟨fun s ρ r o z => by
  simp only [Option.map_eq_some_iff] at z
  obtain ⟨⟨v, s1⟩, h1, rfl⟩ := z
  obtain ⟨n, ρ', a1, a2, a3, r'⟩ := q.ex s ρ r v s1 h1
  exact ⟨ρ', by simp [a1], r'⟩⟩
@[simp] def tRt (F : σ → Option τ) (p : σ → ι) : σ → Option (Fo τ ι σ' l) := fun s => (F s).map fun v => .rt v (p s)
@[simp] def tRtX (F : σ → Option (τ × σ1)) (p : σ1 → ι) : σ → Option (Fo τ ι σ' l) := fun s => (F s).map fun v => .rt v.1 (p v.2)
theorem ts_ret {f1 : EF} {F : σ → Option τ} {R1 : ER σ} {p : σ → ι} (q : TE R f1 et a b F R1) (w : Wk R1 p RI) : TS R (retS f1) et a b RI RL (tRt F p) R' := ⟨fun s ρ r o z => by
  simp only [tRt, Option.map_eq_some_iff] at z
  obtain ⟨v, h1, rfl⟩ := z
  obtain ⟨n, ρ', a1, a2, a3, r'⟩ := q.ex s ρ r v h1
  exact ⟨n, ρ', by simp [a1], a2, a3, w.wk _ _ r'⟩⟩
theorem ts_retX {f1 : EF} {F : σ → Option (τ × σ1)} {p : σ1 → ι} (q : TX R f1 et a b F R1) (w : Wk R1 p RI) : TS R (retS f1) et a b RI RL (tRtX F p) R' := ⟨fun s ρ r o z => by
  simp only [tRtX, Option.map_eq_some_iff] at z
  obtain ⟨⟨v, s1⟩, h1, rfl⟩ := z
  obtain ⟨n, ρ', a1, a2, a3, r'⟩ := q.ex s ρ r v s1 h1
  exact ⟨n, ρ', by simp [a1], a2, a3, w.wk _ _ r'⟩⟩
/-- a name handed back as it is owned -/
theorem te_tk {g : σ → α} {p : σ → σ1} (w : Get R i g e lo hi) (d : Drp R i p R1) : TX R (tkE i) e lo hi (fun s => some (g s, p s)) R1 := ⟨fun s ρ r v s' z => by
  cases z
  obtain ⟨n, a1, a2, a3⟩ := w.get s ρ r
  exact ⟨n, _, by simp [a1]; rfl, a2, a3, d.drp _ _ _ r⟩⟩
theorem ts_retN {v0 : τ} {p : σ → ι} (w : Wk R p RI) (q : et v0 = .none := by rfl) (qa : a = 0 := by rfl) : TS R retN et a b RI RL (fun s => some (.rt v0 (p s))) R' := ⟨fun s ρ r o z => by
  cases z
  subst qa
  exact ⟨0, ρ, by simp [q], Nat.le_refl _, Nat.zero_le _, w.wk _ _ r⟩⟩
theorem ts_nev : TS R nevS et a b RI RL (fun _ => none) R' := ⟨fun s ρ r o z => by cases z⟩
theorem ts_brk {p : σ → l} (w : Wk R p RL) : TS R brkS et a b RI RL (fun s => some (.bk (p s))) R' := ⟨fun s ρ r o z => by cases z; exact ⟨ρ, rfl, w.wk _ _ r⟩⟩
theorem ts_cnt {p : σ → l} (w : Wk R p RL) : TS R cntS et a b RI RL (fun s => some (.ct (p s))) R' := ⟨fun s ρ r o z => by cases z; exact ⟨ρ, rfl, w.wk _ _ r⟩⟩
/-! loops -/
def tFor (pu : α → σ → σb) (b : σb → Option (Fo τ ι σ σ)) : List α → σ → Option (Fo τ ι σ l)
  | [], s => some (.nx s)
  | x :: xs, s => (b (pu x s)).bind fun o => match o with
    | .nx s' => tFor pu b xs s'
    | .ct s' => tFor pu b xs s'
    | .bk s' => some (.nx s')
    | .rt v i => some (.rt v i)
@[simp] def tForS (FI : σ1 → Option (List α)) (w : σ1 → σ) (pu : α → σ → σb) (b : σb → Option (Fo τ ι σ σ)) : σ1 → Option (Fo τ ι σ l) := fun s => (FI s).bind fun xs => tFor pu b xs (w s)
theorem ts_for {fi : AF} {g : GF} {f1 : SF} {FI : σ1 → Option (List α)} {w : σ1 → σ} {pu : α → σ → σb} {F : σb → Option (Fo τ ι σ σ)} {R0 R2 : ER σ1} {Rb : ER σb} (it : TI R0 fi e FI R2) (k : Wk R2 w R) (tg : TG R g e pu Rb) (q : TS Rb f1 et a b RI R F R) : TS R0 (forS fi g f1) et a b RI RL (tForS FI w pu F) R := ⟨fun s ρ r o z => by
  obtain ⟨xs, hx, z⟩ := bind_some' z
  obtain ⟨ρ1, a1, r1⟩ := it.ex s ρ r xs hx
  have r1 := k.wk _ _ r1
  have core : ∀ (xs : List α) (s : σ) (ρ : Env'), R s ρ → ∀ o, tFor (l := l) pu F xs s = some o → FoOk et a b RI RL R (forF g f1 (xs.map e) ρ) o := by
    intro xs
    induction xs with
    | nil => intro s ρ r o z; cases z; exact ⟨ρ, rfl, r⟩
    | cons x xs ih =>
      intro s ρ r o z
      unfold tFor at z
      obtain ⟨o1, hb, z⟩ := bind_some' z
      obtain ⟨ρ1, b1, rb⟩ := tg.ex s ρ x r
      have q1 := q.ex _ ρ1 rb o1 hb
      rw [List.map_cons]
      unfold forF
      rw [b1]
      dsimp only
      cases o1 with
      | nx s' =>
        obtain ⟨ρ', c1, r'⟩ := q1
        rw [c1, bind_ok]
        exact ih s' ρ' r' o z
      | ct s' =>
        obtain ⟨ρ', c1, r'⟩ := q1
        rw [c1, bind_ok]
        exact ih s' ρ' r' o z
      | bk s' =>
        obtain ⟨ρ', c1, r'⟩ := q1
        cases z
        rw [c1, bind_ok]
        exact ⟨ρ', rfl, r'⟩
      | rt v i =>
        obtain ⟨n, ρ', c1, r'⟩ := q1
        cases z
        rw [c1, bind_ok]
        exact ⟨n, ρ', rfl, r'⟩
  have := core xs (w s) ρ1 r1 o z
  simpa [a1] using this⟩
def tWhile (c : σ → Option Bool) (b : σ → Option (Fo τ ι σ σ)) : Nat → σ → Option (Fo τ ι σ l)
  | 0, _ => none
  | n + 1, s => (c s).bind fun k => if k = true then (b s).bind fun o => match o with
      | .nx s' => tWhile c b n s'
      | .ct s' => tWhile c b n s'
      | .bk s' => some (.nx s')
      | .rt v i => some (.rt v i)
    else some (.nx s)
theorem ts_while {c : Env' → Res (Bool × Env')} {f1 : SF} {w : σ1 → σ} {C : σ → Option Bool} {F : σ → Option (Fo τ ι σ σ)} {R0 : ER σ1} {Rc : ER σ} {n : Nat} (k : Wk R0 w R) (tc : TT R c C Rc) (q : TS Rc f1 et a b RI R F R) (kc : Wk Rc (fun s => s) R) : TS R0 (whileF c f1 n) et a b RI RL (fun s => tWhile C F n (w s)) R := ⟨fun s ρ r o z => by
  have r1 := k.wk _ _ r
  have core : ∀ (n : Nat) (s : σ) (ρ : Env'), R s ρ → ∀ o, tWhile (l := l) C F n s = some o → FoOk et a b RI RL R (whileF c f1 n ρ) o := by
    intro n
    induction n with
    | zero => intro s ρ r o z; cases z
    | succ n ih =>
      intro s ρ r o z
      unfold tWhile at z
      obtain ⟨k, hk, z⟩ := bind_some' z
      obtain ⟨ρ1, b1, rb⟩ := tc.ex s ρ r k hk
      unfold whileF
      rw [b1, bind_ok]
      cases k with
      | false => cases z; exact ⟨ρ1, rfl, kc.wk _ _ rb⟩
      | true =>
        rw [if_pos rfl] at z
        obtain ⟨o1, hb, z⟩ := bind_some' z
        have q1 := q.ex _ ρ1 rb o1 hb
        dsimp only
        rw [if_pos rfl]
        cases o1 with
        | nx s' =>
          obtain ⟨ρ', c1, r'⟩ := q1
          rw [c1, bind_ok]
          exact ih s' ρ' r' o z
        | ct s' =>
          obtain ⟨ρ', c1, r'⟩ := q1
          rw [c1, bind_ok]
          exact ih s' ρ' r' o z
        | bk s' =>
          obtain ⟨ρ', c1, r'⟩ := q1
          cases z
          rw [c1, bind_ok]
          exact ⟨ρ', rfl, r'⟩
        | rt v i =>
          obtain ⟨n, ρ', c1, r'⟩ := q1
          cases z
          rw [c1, bind_ok]
          exact ⟨n, ρ', rfl, r'⟩
  exact core n (w s) ρ r1 o z⟩
/-! what changes a list -/
noncomputable def tApp (xs : List α) (x : α) : Option (List α) := if Sl xs then some (xs ++ [x]) else none
@[simp] noncomputable def tAppS (F : σ → Option (α × σ1)) (ge : σ1 → List α) (pu : List α → σ1 → σ2) : σ → Option (Fo τ ι σ2 l) := fun s => (F s).bind fun v => (tApp (ge v.2) v.1).map fun xs => .nx (pu xs v.2)
theorem ts_app {f1 : EF} {g0 : σ → List α} {ge : σ1 → List α} {F : σ → Option (α × σ1)} {pu : List α → σ1 → σ2} (w0 : Get R i g0 (eL e) 1 1) (q : TX R f1 e lo hi F R1) (w1 : Get R1 i ge (eL e) 1 1) (w2 : Put R1 i (eL e) 1 1 pu R2) : TS R (expS (appendF i f1)) et a b RI RL (tAppS F ge pu) R2 := ⟨fun s ρ r o z => by
  obtain ⟨⟨v, s1⟩, h1, z⟩ := bind_some' z
  simp only [Option.map_eq_some_iff] at z
  obtain ⟨xs, h2, rfl⟩ := z
  obtain ⟨n0, c1, c2, c3⟩ := w0.get s ρ r
  obtain ⟨n, ρ', a1, a2, a3, r'⟩ := q.ex s ρ r v s1 h1
  obtain ⟨n1, d1, d2, d3⟩ := w1.get s1 ρ' r'
  have hn0 : n0 = 1 := by omega
  have hn1 : n1 = 1 := by omega
  subst hn0 hn1
  unfold tApp at h2
  split at h2
  case isFalse => cases h2
  rename_i hl
  have hl : (ge s1).length < 16777216 := hl
  cases h2
  refine ⟨_, ?_, w2.put _ _ _ 1 r' (Nat.le_refl _) (Nat.le_refl _)⟩
  simp [c1, eL, a1, d1, appD, hl]⟩
noncomputable def tApp2 (xs : List (List α)) (k : Int) (x : α) : Option (List (List α)) := (ixN xs.length k).bind fun j => (xs[j]?).bind fun ys => if Sl ys then some (xs.set j (ys ++ [x])) else none
theorem ts_app2 {fk fe : PF} {ge : σ → List (List α)} {K : σ → Option Int} {F : σ → Option α} {pu : List (List α) → σ → σ2} (w1 : Get R i ge (eL (eL e)) 2 2) (q1 : TP R fk eI hi1 K) (q2 : TP R fe e 0 F) (w2 : Put R i (eL (eL e)) 2 2 pu R2) : TS R (expS (app2F i fk fe)) et a b RI RL (fun s => (K s).bind fun k => (F s).bind fun x => (tApp2 (ge s) k x).map fun xs => .nx (pu xs s)) R2 := ⟨fun s ρ r o z => by
  obtain ⟨k, hk, z⟩ := bind_some' z
  obtain ⟨x, hx, z⟩ := bind_some' z
  simp only [Option.map_eq_some_iff] at z
  obtain ⟨xs, h2, rfl⟩ := z
  obtain ⟨n0, c1, c2, c3⟩ := w1.get s ρ r
  obtain ⟨n1, d1, _⟩ := q1.ex s ρ r k hk
  obtain ⟨n2, f1, f2⟩ := q2.ex s ρ r x hx
  have hn0 : n0 = 2 := by omega
  have hn2 : n2 = 0 := by omega
  subst hn0 hn2
  unfold tApp2 at h2
  obtain ⟨j, hj, h2⟩ := bind_some' h2
  obtain ⟨ys, hy, h2⟩ := bind_some' h2
  split at h2
  case isFalse => cases h2
  rename_i hl
  have hl : ys.length < 16777216 := hl
  cases h2
  refine ⟨_, ?_, w2.put _ _ _ 2 r (Nat.le_refl _) (Nat.le_refl _)⟩
  have e1 : ((ge s).map (eL e))[j]? = some (.list (ys.map e)) := by rw [List.getElem?_map, hy]; rfl
  simp [c1, d1, f1, eI, app2D, eL, hj, hy, hl, eL, List.map_set]⟩
noncomputable def tPop (xs : List α) (k : Int) : Option (α × List α) := if Sh xs then (ixN xs.length k).bind fun j => (xs[j]?).map fun x => (x, xs.eraseIdx j) else none
theorem erase_map' (g : α → β) : ∀ (l : List α) (k : Nat), (l.map g).eraseIdx k = (l.eraseIdx k).map g
  | [], _ => by simp
  | _ :: _, 0 => rfl
  | a :: l, k + 1 => by
    rw [List.map_cons, List.eraseIdx_cons_succ, List.eraseIdx_cons_succ, List.map_cons, erase_map' g l k]
theorem tx_pop {f1 : EF} {g0 : σ → List α} {ge : σ1 → List α} {F : σ → Option (Int × σ1)} {pu : List α → σ1 → σ2} (w0 : Get R i g0 (eL e) 1 1) (q : TX R f1 eI lo hi F R1) (w1 : Get R1 i ge (eL e) 1 1) (w2 : Put R1 i (eL e) 1 1 pu R2) : TX R (popF i f1) e 0 0 (fun s => (F s).bind fun v => (tPop (ge v.2) v.1).map fun x => (x.1, pu x.2 v.2)) R2 := ⟨fun s ρ r o s' z => by
  obtain ⟨⟨v, s1⟩, h1, z⟩ := bind_some' z
  simp only [Option.map_eq_some_iff, Prod.mk.injEq] at z
  obtain ⟨⟨y, xs⟩, h2, z1, z2⟩ := z
  subst z1 z2
  obtain ⟨n0, c1, c2, c3⟩ := w0.get s ρ r
  obtain ⟨n, ρ', a1, a2, a3, r'⟩ := q.ex s ρ r v s1 h1
  obtain ⟨n1, d1, d2, d3⟩ := w1.get s1 ρ' r'
  have hn0 : n0 = 1 := by omega
  have hn1 : n1 = 1 := by omega
  subst hn0 hn1
  unfold tPop at h2
  split at h2
  case isFalse => cases h2
  rename_i hl
  have hl : (ge s1).length ≤ 16777216 := hl
  obtain ⟨j, hj, h2⟩ := bind_some' h2
  simp only [Option.map_eq_some_iff, Prod.mk.injEq] at h2
  obtain ⟨x, hx, z3, z4⟩ := h2
  subst z3 z4
  refine ⟨0, _, ?_, Nat.le_refl _, Nat.le_refl _, w2.put _ _ _ 1 r' (Nat.le_refl _) (Nat.le_refl _)⟩
  simp [popF, c1, eL, a1, d1, eI, popD, hl, hj, hx, erase_map']⟩
def tSet (xs : List α) (k : Int) (x : α) : Option (List α) := (ixN xs.length k).map fun j => xs.set j x
@[simp] def tSetS (F : σ → Option (α × σ1)) (K : σ1 → Option Int) (ge : σ1 → List α) (pu : List α → σ1 → σ2) : σ → Option (Fo τ ι σ2 l) := fun s => (F s).bind fun v => (K v.2).bind fun k => (tSet (ge v.2) k v.1).map fun xs => .nx (pu xs v.2)
theorem ts_set {f1 : EF} {fk : PF} {ge : σ1 → List α} {F : σ → Option (α × σ1)} {K : σ1 → Option Int} {pu : List α → σ1 → σ2} (q : TX R f1 e lo hi F R1) (w1 : Get R1 i ge (eL e) 1 1) (q1 : TP R1 fk eI hi1 K) (w2 : Put R1 i (eL e) 1 1 pu R2) : TS R (asgF f1 (gSetD i fk)) et a b RI RL (tSetS F K ge pu) R2 := ⟨fun s ρ r o z => by
  obtain ⟨⟨v, s1⟩, h1, z⟩ := bind_some' z
  obtain ⟨k, hk, z⟩ := bind_some' z
  simp only [Option.map_eq_some_iff] at z
  obtain ⟨xs, h2, rfl⟩ := z
  obtain ⟨n, ρ', a1, a2, a3, r'⟩ := q.ex s ρ r v s1 h1
  obtain ⟨n1, d1, d2, d3⟩ := w1.get s1 ρ' r'
  obtain ⟨n2, f1, _⟩ := q1.ex s1 ρ' r' k hk
  have hn1 : n1 = 1 := by omega
  subst hn1
  unfold tSet at h2
  simp only [Option.map_eq_some_iff] at h2
  obtain ⟨j, hj, rfl⟩ := h2
  refine ⟨_, ?_, w2.put _ _ _ 1 r' (Nat.le_refl _) (Nat.le_refl _)⟩
  simp [a1, gSetD, d1, f1, eI, setD, eL, hj, List.map_set]⟩
/-! a def -/
structure Ini (R : ER τ) (E : τ → List D) (k : Nat) : Prop where
  ini : ∀ x, R x ((E x).map (fun d => some (d, 0)) ++ List.replicate k none)
theorem in_0 : Ini Rn eNil 0 := ⟨fun _ => trivial⟩
theorem in_a {R : ER Unit} {k : Nat} (h : Ini R eNil k) : Ini (Ra R) eNil (k + 1) := ⟨fun x => ⟨none, _, rfl, h.ini x⟩⟩
theorem in_c {R : ER τ} {E : τ → List D} {k : Nat} (h : Ini R E k) : Ini (Rv e 0 0 R) (eCons e E) k := ⟨fun x => ⟨0, _, rfl, Nat.le_refl _, Nat.le_refl _, h.ini x.2⟩⟩
def NoL : ER Empty := fun _ _ => False
@[simp] def tRun (vn : Option α) (F : τ → Option (Fo α Unit σ' Empty)) : τ → Option α := fun x => (F x).bind fun o => match o with
  | .rt v _ => some v
  | .nx _ => vn
  | _ => none
theorem tf_run {f1 : SF} {N k m : Nat} {E : τ → List D} {R : ER τ} {vn : Option α} {F : τ → Option (Fo α Unit σ' Empty)} (hi0 : Ini R E k) (q : TS R f1 e lo hi Rn NoL F R') (wl : ∀ x, (E x).length = m := by exact fun _ => rfl) (wk : m + k = N := by decide) (wn : ∀ v, vn = some v → e v = .none ∧ lo = 0 := by first | exact fun _ h => nomatch h | exact fun _ h => by cases h; exact ⟨rfl, rfl⟩) : TF (runP N f1) E e lo hi (tRun vn F) := ⟨fun x v z => by
  obtain ⟨o, h1, z⟩ := bind_some' z
  have i0 := hi0.ini x
  have e0 : env0 N ((E x).map fun d => (d, 0)) = (E x).map (fun d => some (d, 0)) ++ List.replicate k none := by
    unfold env0
    rw [List.map_map, List.length_map, wl x, show N - m = k by omega]
    rfl
  rw [← e0] at i0
  have q1 := q.ex x _ i0 o h1
  cases o with
  | nx s' =>
    obtain ⟨ρ', c1, _⟩ := q1
    obtain ⟨w1, w2⟩ := wn v z
    subst w2
    exact ⟨0, by simp [c1, w1], Nat.le_refl _, Nat.zero_le _⟩
  | bk s' => exact s'.elim
  | ct s' => exact s'.elim
  | rt v' u =>
    obtain ⟨n, ρ', c1, c2, c3, _⟩ := q1
    cases z
    exact ⟨n, by simp [c1], c2, c3⟩⟩
@[simp] def tRunI (vn : Option α) (F : ι × τ → Option (Fo α (ι × Unit) σ' Empty)) : ι × τ → Option (α × ι) := fun x => (F x).bind fun o => match o with
  | .rt v i => some (v, i.1)
  | _ => none
theorem tfi_run {f1 : SF} {N k m mo : Nat} {eι : ι → D} {E : τ → List D} {R : ER τ} {vn : Option α} {F : ι × τ → Option (Fo α (ι × Unit) σ' Empty)} (hi0 : Ini R E k) (q : TS (Rv eι mo mo R) f1 e lo hi (Rv eι mo mo Rn) NoL F R') (wl : ∀ x, (E x).length = m := by exact fun _ => rfl) (wk : m + 1 + k = N := by decide) : TFI (runI N mo f1) eι E e lo hi (tRunI vn F) := ⟨fun i x v i' z => by
  obtain ⟨o, h1, z⟩ := bind_some' z
  have i0 := hi0.ini x
  have e0 : env0 N ((eι i, mo) :: (E x).map fun d => (d, 0)) = some (eι i, mo) :: ((E x).map (fun d => some (d, 0)) ++ List.replicate k none) := by
    unfold env0
    rw [List.map_cons, List.map_map, List.length_cons, List.length_map, wl x, show N - (m + 1) = k by omega]
    rfl
  have q1 := q.ex (i, x) _ ⟨mo, _, e0, Nat.le_refl _, Nat.le_refl _, i0⟩ o h1
  cases o with
  | nx s' => cases z
  | bk s' => exact s'.elim
  | ct s' => exact s'.elim
  | rt v' u =>
    obtain ⟨n, ρ', c1, c2, c3, n1, ρ2, g1, g2, g3, _⟩ := q1
    cases z
    have hn : n1 = mo := by omega
    subst hn
    refine ⟨n, ?_, c2, c3⟩
    show endIO n1 (f1 (env0 N ((eι i, n1) :: (E x).map fun d => (d, 0)))) = _
    rw [c1, g1]
    simp [endIO, endM]⟩
end
end TL

namespace TL
open PySem PySem.Spec PyProof.Rows L2 DL
section
variable {σ σ' σ1 σ2 σ3 ι α β γ κ ν τ l : Type} {R : ER σ} {R' : ER σ'} {R1 : ER σ1} {R2 : ER σ2} {R3 : ER σ3} {RI : ER ι} {RL : ER l} {e : α → D} {ev : ν → D} {ek : κ → List Key} {et : τ → D} {lo hi lo1 hi1 lo2 hi2 h1 h2 a b : Nat} {i j : Nat}
/-! dicts whose keys are tuples -/
def eDc (ek : κ → List Key) (ev : ν → D) (xs : List (κ × ν)) : D := tdic (xs.map fun p => (ek p.1, ev p.2))
def kII (p : Int × Int) : List Key := [.inl p.1, .inl p.2]
theorem kII_inj : ∀ p q, kII p = kII q ↔ p = q := fun p q => by
  unfold kII
  constructor
  · intro h
    simp only [List.cons.injEq, Sum.inl.injEq, and_true] at h
    exact Prod.ext h.1 h.2
  · rintro rfl; rfl
theorem te_dic : TE R dicE (eDc ek ev) 1 1 (tK []) R := ⟨fun s ρ r v z => by cases z; exact ⟨1, ρ, rfl, Nat.le_refl _, Nat.le_refl _, r⟩⟩
structure TKX (R : ER σ) (g : Env' → Res (List Key × Env')) (ek : κ → List Key) (F : σ → Option (κ × σ')) (R' : ER σ') : Prop where
  ex : ∀ s ρ, R s ρ → ∀ k s', F s = some (k, s') → ∃ ρ', g ρ = .ok (ek k, ρ') ∧ R' s' ρ'
theorem tk_2 {f1 f2 : PF} {F G : σ → Option Int} (x : TP R f1 eI h1 F) (y : TP R f2 eI h2 G) : TKX R (tupK (pO (consP f1 (consP f2 nilP)))) kII (tX (tPr F G)) R := ⟨fun s ρ r k s' z => by
  simp only [tX, Option.map_eq_some_iff, Prod.mk.injEq] at z
  obtain ⟨⟨u, v⟩, z1, z2, z3⟩ := z
  subst z2 z3
  obtain ⟨u', hu, z1⟩ := bind_some' z1
  obtain ⟨v', hv, z1⟩ := bind_some' z1
  cases z1
  obtain ⟨n, a1, _⟩ := x.ex s ρ r u hu
  obtain ⟨m, b1, _⟩ := y.ex s ρ r v hv
  refine ⟨ρ, ?_, r⟩
  simp [a1, b1, eI, ownKeys, keysL, DL.keyOf, kII]⟩
theorem tk_2X {f1 f2 : EF} {F : σ → Option (Int × σ1)} {G : σ1 → Option (Int × σ2)} (x : TX R f1 eI lo1 h1 F R1) (y : TX R1 f2 eI lo2 h2 G R2) : TKX R (tupK (consO f1 (consO f2 nilO))) kII (tPrX F G) R2 := ⟨fun s ρ r k s' z => by
  obtain ⟨⟨u, s1⟩, hu, z⟩ := bind_some' z
  obtain ⟨⟨v, s2⟩, hv, z⟩ := bind_some' z
  cases z
  obtain ⟨n, ρ1, a1, _, _, r1⟩ := x.ex s ρ r u s1 hu
  obtain ⟨m, ρ2, b1, _, _, r2⟩ := y.ex s1 ρ1 r1 v _ hv
  refine ⟨ρ2, ?_, r2⟩
  simp [a1, b1, eI, ownKeys, keysL, DL.keyOf, kII]⟩
theorem tk_if {c : Env' → Res (Bool × Env')} {g1 g2 : Env' → Res (List Key × Env')} {C : σ → Option (Bool × σ1)} {F G : σ1 → Option (κ × σ2)} (q : TTX R c C R1) (x : TKX R1 g1 ek F R2) (y : TKX R1 g2 ek G R2) : TKX R (ifK c g1 g2) ek (tIteX C F G) R2 := ⟨fun s ρ r o s' z => by
  obtain ⟨⟨k, s1⟩, hk, z⟩ := bind_some' z
  obtain ⟨ρ1, a1, r1⟩ := q.ex s ρ r k s1 hk
  cases k with
  | true => obtain ⟨ρ2, b1, r2⟩ := x.ex s1 ρ1 r1 o s' z; exact ⟨ρ2, by simp [a1, b1], r2⟩
  | false => obtain ⟨ρ2, b1, r2⟩ := y.ex s1 ρ1 r1 o s' z; exact ⟨ρ2, by simp [a1, b1], r2⟩⟩
def tPut [DecidableEq κ] (xs : List (κ × ν)) (k : κ) (v : ν) : List (κ × ν) := if (xs.any fun p => decide (p.1 = k)) = true then xs.map fun p => if p.1 = k then (p.1, v) else p else xs ++ [(k, v)]
theorem putT_map [DecidableEq κ] (inj : ∀ p q, ek p = ek q ↔ p = q) (xs : List (κ × ν)) (k : κ) (v : ν) : putT (xs.map fun p => (ek p.1, ev p.2)) (ek k) (ev v) = (tPut xs k v).map fun p => (ek p.1, ev p.2) := by
  have e1 : ((xs.map fun p => (ek p.1, ev p.2)).any fun p => decide (p.1 = ek k)) = xs.any fun p => decide (p.1 = k) := by
    rw [List.any_map]
    congr 1
    funext p
    show decide (ek p.1 = ek k) = _
    exact decide_eq_decide.mpr (inj _ _)
  unfold putT tPut
  rw [e1]
  by_cases h : (xs.any fun p => decide (p.1 = k)) = true
  · rw [if_pos h, if_pos h, List.map_map, List.map_map]
    refine List.map_congr_left fun p _ => ?_
    show (if ek p.1 = ek k then (ek p.1, ev v) else (ek p.1, ev p.2)) = (ek (if p.1 = k then (p.1, v) else p).1, ev (if p.1 = k then (p.1, v) else p).2)
    by_cases q : p.1 = k
    · rw [if_pos q, if_pos ((inj _ _).mpr q)]
    · rw [if_neg q, if_neg (fun z => q ((inj _ _).mp z))]
  · rw [if_neg h, if_neg h, List.map_append]
    rfl
noncomputable def tPutO [DecidableEq κ] (xs : List (κ × ν)) (k : κ) (v : ν) : Option (List (κ × ν)) := if Sl xs then some (tPut xs k v) else none
@[simp] noncomputable def tPutS [DecidableEq κ] (F : σ → Option (ν × σ1)) (K : σ1 → Option (κ × σ2)) (ge : σ2 → List (κ × ν)) (pu : List (κ × ν) → σ2 → σ3) : σ → Option (Fo τ ι σ3 l) := fun s => (F s).bind fun v => (K v.2).bind fun k => (tPutO (ge k.2) k.1 v.1).map fun xs => .nx (pu xs k.2)
theorem ts_put [DecidableEq κ] {fv : EF} {fk : Env' → Res (List Key × Env')} {g1 : σ1 → List (κ × ν)} {ge : σ2 → List (κ × ν)} {F : σ → Option (ν × σ1)} {K : σ1 → Option (κ × σ2)} {pu : List (κ × ν) → σ2 → σ3} (inj : ∀ p q, ek p = ek q ↔ p = q) (x : TX R fv ev lo hi F R1) (w1 : Get R1 i g1 (eDc ek ev) 1 1) (y : TKX R1 fk ek K R2) (w2 : Get R2 i ge (eDc ek ev) 1 1) (w3 : Put R2 i (eDc ek ev) 1 1 pu R3) : TS R (putTF i fv fk) et a b RI RL (tPutS F K ge pu) R3 := ⟨fun s ρ r o z => by
  obtain ⟨⟨v, s1⟩, hv, z⟩ := bind_some' z
  obtain ⟨⟨k, s2⟩, hk, z⟩ := bind_some' z
  simp only [Option.map_eq_some_iff] at z
  obtain ⟨xs, hx, rfl⟩ := z
  unfold tPutO at hx
  split at hx
  case isFalse => cases hx
  rename_i hl
  cases hx
  obtain ⟨n, ρ1, a1, _, _, r1⟩ := x.ex s ρ r v s1 hv
  obtain ⟨n1, b1, b2, b3⟩ := w1.get _ _ r1
  obtain ⟨ρ2, c1, r2⟩ := y.ex s1 ρ1 r1 k s2 hk
  obtain ⟨n2, d1, d2, d3⟩ := w2.get _ _ r2
  have hn1 : n1 = 1 := by omega
  have hn2 : n2 = 1 := by omega
  subst hn1 hn2
  refine ⟨_, ?_, w3.put _ _ _ 1 r2 (Nat.le_refl _) (Nat.le_refl _)⟩
  have q1 : isOwnT (getS ρ1 i) = true := by rw [b1]; rfl
  have q2 : tAt (getS ρ2 i) = some ((ge s2).map fun p => (ek p.1, ev p.2)) := by rw [d1]; exact tOf_tdic _
  show (fv ρ >>= fun y => if isOwnT (getS y.2.2 i) = true then fk y.2.2 >>= fun k => liftO (tAt (getS k.2 i)) >>= fun es => if es.length < line then Res.ok (Fl.nx, k.2.set i (some (tdic (putT es k.1 y.1), 1))) else .stuck else .stuck) = _
  rw [a1, bind_ok]
  dsimp only
  rw [if_pos q1, c1, bind_ok]
  dsimp only
  rw [q2, liftO_some, bind_ok, if_pos (by rw [List.length_map]; exact hl), putT_map inj]
  rfl⟩
theorem ti_dic {g : σ → List (κ × ν)} {R' : ER σ} {eK : κ → D} {pu : List (κ × ν) → σ → σ} (w : Get R i g (eDc ek ev) 1 1) (w2 : Put R i (eDc ek ev) 0 0 pu R') (e1 : ∀ s, pu (g s) s = s := by exact fun _ => rfl) (q : ∀ k, PyData.tuple ((ek k).map keyD) = eK k := by exact fun _ => rfl) : TI R (fun ρ => liftO (freezeT i ρ)) eK (fun s => some ((g s).map (·.1))) R' := ⟨fun s ρ r xs z => by
  cases z
  obtain ⟨n, a1, a2, a3⟩ := w.get s ρ r
  have hn : n = 1 := by omega
  subst hn
  have r' := w2.put s ρ (g s) 0 r (Nat.le_refl _) (Nat.le_refl _)
  rw [e1] at r'
  refine ⟨_, ?_, r'⟩
  have q2 : tAt (getS ρ i) = some ((g s).map fun p => (ek p.1, ev p.2)) := by rw [a1]; exact tOf_tdic _
  unfold freezeT
  rw [q2]
  show Res.ok (keysD _, _) = _
  congr 2
  rw [keysD, List.map_map, List.map_map]
  exact List.map_congr_left fun p _ => q p.1⟩
end
end TL

namespace TL
open PySem PySem.Spec PyProof.Rows L2 DL
section
variable {σ σ' α β : Type} {R : ER σ} {R' : ER σ'} {e : α → D} {f : β → D}
theorem sortI_2 (a b : Int) : sortI [a, b] = [min a b, max a b] := by
  refine sorted_uniq ((sortI_perm [a, b]).trans ?_) (sortI_sorted _) ?_
  · by_cases h : a ≤ b
    · rw [Int.min_eq_left h, Int.max_eq_right h]
    · have h : b ≤ a := by omega
      rw [Int.min_eq_right h, Int.max_eq_left h]
      exact List.Perm.swap _ _ _
  · simp only [List.pairwise_cons, List.mem_cons, List.not_mem_nil, or_false, forall_eq, List.Pairwise.nil, and_true, false_imp_iff, implies_true]
    omega
@[simp] def tS2 (x : Int × Int × Unit) : Int × Int := (min x.1 x.2.1, max x.1 x.2.1)
theorem tx_s2 {g : AF} {F : σ → Option ((Int × Int × Unit) × σ')} (a : TA R g (eCons eI (eCons eI eNil)) F R') : TX R (callE tupleD (consO (callE sortedD (consO (lstE g) nilO)) nilO)) (eP eI eI) 0 0 (fun s => (F s).map fun p => (tS2 p.1, p.2)) R' := ⟨fun s ρ r c s' z => by
  simp only [Option.map_eq_some_iff, Prod.mk.injEq] at z
  obtain ⟨⟨x, s1⟩, z1, z2, z3⟩ := z
  subst z2 z3
  obtain ⟨ρ', a1, r'⟩ := a.ex s ρ r x s1 z1
  refine ⟨0, ρ', ?_, Nat.le_refl _, Nat.le_refl _, r'⟩
  have s2 := sortedD_ints [x.1, x.2.1] 1
  rw [sortI_2] at s2
  have s2 : sortedD [(.list [.int x.1, .int x.2.1], 1)] = some (.list [.int (min x.1 x.2.1), .int (max x.1 x.2.1)], 1) := s2
  have b1 : lstE g ρ = .ok (.list [.int x.1, .int x.2.1], 1, ρ') := by simp [a1, eCons, eNil, eI]
  have b2 : callE sortedD (consO (lstE g) nilO) ρ = .ok (.list [.int (min x.1 x.2.1), .int (max x.1 x.2.1)], 1, ρ') := by
    refine callE_of (a := [(.list [.int x.1, .int x.2.1], 1)]) ?_ s2
    show (lstE g ρ >>= fun x => nilO x.2.2 >>= fun y => Res.ok ((x.1, x.2.1) :: y.1, y.2)) = _
    rw [b1]; rfl
  refine callE_of (a := [(.list [.int (min x.1 x.2.1), .int (max x.1 x.2.1)], 1)]) (c := (_, 0)) ?_ rfl
  show (callE sortedD (consO (lstE g) nilO) ρ >>= fun x => nilO x.2.2 >>= fun y => Res.ok ((x.1, x.2.1) :: y.1, y.2)) = _
  rw [b2]; rfl⟩
theorem te_s2 {g : AF} {F : σ → Option (Int × Int × Unit)} {R' : ER σ} (a : TAp R g (eCons eI (eCons eI eNil)) F R') : TE R (callE tupleD (consO (callE sortedD (consO (lstE g) nilO)) nilO)) (eP eI eI) 0 0 (tOp1 (fun x => some (tS2 x)) F) R' := (tx_s2 a.x).p fun s => by
  cases q : F s <;> simp [q]
end
end TL

/-! typed loops by invariants -/
namespace TL
open PySem PySem.Spec PyProof.Rows L2 DL
section
variable {σ σb ι α β τ l : Type}
theorem tFor_nil {pu : α → σ → σb} {b : σb → Option (Fo τ ι σ σ)} {s : σ} : tFor (l := l) pu b [] s = some (.nx s) := rfl
theorem tFor_inv {pu : α → σ → σb} {b : σb → Option (Fo τ ι σ σ)} (I : Nat → σ → Prop) : ∀ {xs : List α} {k : Nat} {s : σ}, I k s →
    (∀ (i : Nat) (x : α) (s : σ), xs[i]? = some x → I (k + i) s → ∃ s', (b (pu x s) = some (.nx s') ∨ b (pu x s) = some (.ct s')) ∧ I (k + i + 1) s') → ∃ s', tFor (l := l) pu b xs s = some (.nx s') ∧ I (k + xs.length) s'
  | [], k, s, h, _ => ⟨s, rfl, h⟩
  | x :: xs, k, s, h, hs => by
    obtain ⟨s1, e1, h1⟩ := hs 0 x s rfl h
    obtain ⟨s', e2, h2⟩ := tFor_inv I (xs := xs) (k := k + 1) (s := s1) h1 fun i d s e hI => by
      have q := hs (i + 1) d s (by simpa using e) (by rw [show k + (i + 1) = k + 1 + i by omega]; exact hI)
      rw [show k + (i + 1) + 1 = k + 1 + i + 1 by omega] at q
      exact q
    refine ⟨s', ?_, by rw [List.length_cons, show k + (xs.length + 1) = k + 1 + xs.length by omega]; exact h2⟩
    unfold tFor
    rcases e1 with e1 | e1 <;> (rw [e1]; exact e2)
theorem tFor_fold {pu : α → σ → σb} {b : σb → Option (Fo τ ι σ σ)} {g : σ → α → σ} (I : σ → Prop) : ∀ {xs : List α} {s : σ}, I s →
    (∀ x ∈ xs, ∀ s, I s → (b (pu x s) = some (.nx (g s x)) ∨ b (pu x s) = some (.ct (g s x))) ∧ I (g s x)) → tFor (l := l) pu b xs s = some (.nx (xs.foldl g s)) ∧ I (xs.foldl g s)
  | [], s, h, _ => ⟨rfl, h⟩
  | x :: xs, s, h, hs => by
    obtain ⟨e1, h1⟩ := hs x List.mem_cons_self s h
    obtain ⟨e2, h2⟩ := tFor_fold I (xs := xs) h1 fun y hy => hs y (List.mem_cons_of_mem _ hy)
    refine ⟨?_, h2⟩
    unfold tFor
    rcases e1 with e1 | e1 <;> (rw [e1]; exact e2)
theorem tFor_rt {pu : α → σ → σb} {b : σb → Option (Fo τ ι σ σ)} {v : τ} {u : ι} (I : Nat → σ → Prop) : ∀ {xs : List α} {k : Nat} {s : σ} {j : Nat}, I k s → j < xs.length →
    (∀ (i : Nat) (x : α) (s : σ), i < j → xs[i]? = some x → I (k + i) s → ∃ s', (b (pu x s) = some (.nx s') ∨ b (pu x s) = some (.ct s')) ∧ I (k + i + 1) s') →
    (∀ (x : α) (s : σ), xs[j]? = some x → I (k + j) s → b (pu x s) = some (.rt v u)) → tFor (l := l) pu b xs s = some (.rt v u)
  | [], k, s, j, h, hj, _, _ => by simp at hj
  | x :: xs, k, s, 0, h, hj, hs, hr => by
    unfold tFor
    rw [hr x s rfl h]
    rfl
  | x :: xs, k, s, j + 1, h, hj, hs, hr => by
    obtain ⟨s1, e1, h1⟩ := hs 0 x s (by omega) rfl h
    have ih := tFor_rt I (xs := xs) (k := k + 1) (s := s1) (j := j) h1 (by simpa using hj) (fun i d s hi e hI => by
      have q := hs (i + 1) d s (by omega) (by simpa using e) (by rw [show k + (i + 1) = k + 1 + i by omega]; exact hI)
      rw [show k + (i + 1) + 1 = k + 1 + i + 1 by omega] at q
      exact q) (fun d s e hI => hr d s (by simpa using e) (by rw [show k + (j + 1) = k + 1 + j by omega]; exact hI))
    unfold tFor
    rcases e1 with e1 | e1 <;> (rw [e1]; exact ih)
theorem tWhile_inv {c : σ → Option Bool} {b : σ → Option (Fo τ ι σ σ)} (I J : σ → Prop) (μ : σ → Nat) (hs : ∀ s, I s → ∃ k, c s = some k ∧ (k = false → J s) ∧ (k = true → ∃ s', (b s = some (.nx s') ∨ b s = some (.ct s')) ∧ I s' ∧ μ s' < μ s)) : ∀ {n : Nat} {s : σ}, I s → μ s < n → ∃ s', tWhile (l := l) c b n s = some (.nx s') ∧ J s'
  | 0, s, _, h => by omega
  | n + 1, s, hI, h => by
    obtain ⟨k, e1, h0, h1⟩ := hs s hI
    unfold tWhile
    rw [e1]
    cases k with
    | false => exact ⟨s, rfl, h0 rfl⟩
    | true =>
      obtain ⟨s2, e2, hI2, hμ⟩ := h1 rfl
      obtain ⟨s', e3, hJ⟩ := tWhile_inv I J μ hs (n := n) (s := s2) hI2 (by omega)
      refine ⟨s', ?_, hJ⟩
      simp only [Option.bind_some, if_true]
      rcases e2 with e2 | e2 <;> (rw [e2]; exact e3)
/-- each item kept or left, the state led along -/
theorem compX_inv {b : α → σ → Option (Option β × σ)} (I : Nat → List β → σ → Prop) : ∀ {xs : List α} {k : Nat} {ys : List β} {s : σ}, I k ys s →
    (∀ (i : Nat) (x : α) (ys : List β) (s : σ), xs[i]? = some x → I (k + i) ys s → ∃ o s', b x s = some (o, s') ∧ I (k + i + 1) (ys ++ o.toList) s') → ∃ zs s', compX b xs s = some (zs, s') ∧ I (k + xs.length) (ys ++ zs) s'
  | [], k, ys, s, h, _ => ⟨[], s, rfl, by rw [List.append_nil]; exact h⟩
  | x :: xs, k, ys, s, h, hs => by
    obtain ⟨o, s1, e1, h1⟩ := hs 0 x ys s rfl h
    obtain ⟨zs, s', e2, h2⟩ := compX_inv I (xs := xs) (k := k + 1) (ys := ys ++ o.toList) (s := s1) h1 fun i d ys s e hI => by
      have q := hs (i + 1) d ys s (by simpa using e) (by rw [show k + (i + 1) = k + 1 + i by omega]; exact hI)
      rw [show k + (i + 1) + 1 = k + 1 + i + 1 by omega] at q
      exact q
    refine ⟨o.toList ++ zs, s', ?_, by rw [List.length_cons, show k + (xs.length + 1) = k + 1 + xs.length by omega, ← List.append_assoc]; exact h2⟩
    unfold compX
    rw [e1, Option.bind_some, e2]
    cases o <;> rfl
@[simp] theorem compT_some {p : α → Bool} {h : α → β} {xs : List α} : compT (fun x => some (p x)) (fun x => some (h x)) xs = some ((xs.filter p).map h) := compT_eq (fun _ _ => rfl) fun _ _ _ => rfl
@[simp] theorem mapT_some {h : α → β} {xs : List α} : mapT (fun x => some (h x)) xs = some (xs.map h) := mapT_eq fun _ _ => rfl
@[simp] theorem ite_some' {c : Prop} [Decidable c] {a b : α} : (if c then some a else some b) = some (if c then a else b) := by split <;> rfl
@[simp] theorem compT_id {p : α → Bool} {xs : List α} : compT (fun x => some (p x)) some xs = some (xs.filter p) := by
  have := compT_some (p := p) (h := fun x => x) (xs := xs)
  rw [List.map_id'] at this
  exact this
@[simp] theorem compT_id' {p : α → Bool} {xs : List α} : compT (fun x => some (p x)) (fun x => some x) xs = some (xs.filter p) := compT_id
@[simp] theorem mapT_id {xs : List α} : mapT some xs = some xs := by
  have := mapT_some (h := fun x : α => x) (xs := xs)
  rw [List.map_id'] at this
  exact this
@[simp] theorem mapT_id' {xs : List α} : mapT (fun x => some x) xs = some xs := mapT_id
theorem tFor_inv0 {pu : α → σ → σb} {b : σb → Option (Fo τ ι σ σ)} (I : Nat → σ → Prop) {xs : List α} {s : σ} (h : I 0 s)
    (hs : ∀ (i : Nat) (x : α) (s : σ), xs[i]? = some x → I i s → ∃ s', (b (pu x s) = some (.nx s') ∨ b (pu x s) = some (.ct s')) ∧ I (i + 1) s') : ∃ s', tFor (l := l) pu b xs s = some (.nx s') ∧ I xs.length s' := by
  have := tFor_inv (l := l) (pu := pu) (b := b) I (xs := xs) (k := 0) (s := s) h (fun i x s e hI => by rw [Nat.zero_add] at hI ⊢; exact hs i x s e hI)
  rwa [Nat.zero_add] at this
theorem compX_inv0 {b : α → σ → Option (Option β × σ)} (I : Nat → List β → σ → Prop) {xs : List α} {s : σ} (h : I 0 [] s)
    (hs : ∀ (i : Nat) (x : α) (ys : List β) (s : σ), xs[i]? = some x → I i ys s → ∃ o s', b x s = some (o, s') ∧ I (i + 1) (ys ++ o.toList) s') : ∃ zs s', compX b xs s = some (zs, s') ∧ I xs.length zs s' := by
  have := compX_inv (b := b) I (xs := xs) (k := 0) (ys := []) (s := s) h (fun i x ys s e hI => by rw [Nat.zero_add] at hI ⊢; exact hs i x ys s e hI)
  rwa [Nat.zero_add] at this
theorem tLx_inv {σc σd : Type} {FI : σ → Option (List α)} {pu : α → σ → σb} {Fc : σb → Option (Bool × σc)} {Ff : σc → Option (β × σd)} {q2 : σc → σ} {q3 : σd → σ} (I : Nat → List β → σ → Prop) {xs : List α} {s : σ} (hx : FI s = some xs) (hsh : Sh xs) (h0 : I 0 [] s)
    (hs : ∀ (i : Nat) (x : α) (ys : List β) (s : σ), xs[i]? = some x → I i ys s → ∃ k sc, Fc (pu x s) = some (k, sc) ∧ (k = false → I (i + 1) ys (q2 sc)) ∧ (k = true → ∃ y sd, Ff sc = some (y, sd) ∧ I (i + 1) (ys ++ [y]) (q3 sd))) : ∃ zs s', tLx FI pu Fc Ff q2 q3 s = some (zs, s') ∧ I xs.length zs s' := by
  obtain ⟨zs, s', e, h⟩ := compX_inv0 (b := fun x s => (Fc (pu x s)).bind fun k => if k.1 = true then (Ff k.2).map fun y => (some y.1, q3 y.2) else some (none, q2 k.2)) I (xs := xs) h0 (fun i x ys s e hI => by
    obtain ⟨k, sc, e1, h1, h2⟩ := hs i x ys s e hI
    cases k with
    | false => exact ⟨none, q2 sc, by rw [e1]; rfl, by simpa using h1 rfl⟩
    | true =>
      obtain ⟨y, sd, e2, h3⟩ := h2 rfl
      exact ⟨some y, q3 sd, by rw [e1]; simp [e2], h3⟩)
  refine ⟨zs, s', ?_, h⟩
  unfold tLx
  rw [hx, Option.bind_some, if_pos hsh]
  exact e
@[simp] theorem mapT_nil {g : α → Option β} : mapT g [] = some [] := rfl
theorem tIx_some {xs : List α} {k : Nat} {x : α} (h : xs[k]? = some x) : tIx xs (k : Nat) = some x := by
  have hk : k < xs.length := (List.getElem?_eq_some_iff.mp h).1
  unfold tIx
  simp [ixN, hk]
  exact (List.getElem?_eq_some_iff.mp h).2
theorem tIx_get {xs : List α} {k : Nat} (h : k < xs.length) : tIx xs (k : Nat) = some xs[k] := tIx_some (List.getElem?_eq_getElem h)
theorem tIx_0 {xs : List α} {x : α} : tIx (x :: xs) 0 = some x := tIx_some (k := 0) rfl
theorem tIx_last {xs : List α} {x : α} : tIx (xs ++ [x]) (-1) = some x := by
  have h : ixN (xs ++ [x]).length (-1) = some xs.length := by
    unfold ixN
    rw [if_neg (by omega), List.length_append, List.length_singleton]
    split
    · congr 1; omega
    · rename_i z
      exact absurd (by omega) z
  unfold tIx
  rw [h]
  simp
theorem tApp_some {xs : List α} {x : α} (h : xs.length < 1000000) : tApp xs x = some (xs ++ [x]) := if_pos (hd_lt h)
theorem tCat_eq {xs ys : List α} (h : xs.length + ys.length ≤ 1000000) : tCat xs ys = some (xs ++ ys) := if_pos (hd (by omega))
theorem tRg_nat {n : Nat} (h : n < 1000000) : tRg (n : Int) = some (rgT 0 n) := if_pos (hd (by omega))
theorem tRg_int {j : Int} (h : -1000 ≤ j) (h' : j < 1000000) : tRg j = some (rgT 0 j) := if_pos (hd ⟨h, h'⟩)
theorem tRg2_int {i j : Int} (h : -1000 ≤ i) (h' : i < 1000000) (k : -1000 ≤ j) (k' : j < 1000000) : tRg2 i j = some (rgT i j) := if_pos (hd ⟨h, h', k, k'⟩)
theorem tRgN_nat {n : Nat} (h : n < 1000000) : tRgN (n : Int) = some (rgT 0 n) := if_pos (hd (by unfold RgOk; omega))
theorem tSet_some {xs : List α} {k : Nat} {x : α} (h : k < xs.length) : tSet xs (k : Nat) x = some (xs.set k x) := by
  unfold tSet
  simp [ixN, h]
theorem tMod_pos {a b : Int} (h : 0 < b) : tMod a b = some (a % b) := if_pos h
theorem tMul_some {a b : Int} (h : a.natAbs < 2 ^ 400000) (h' : b.natAbs < 2 ^ 400000) : tMul a b = some (a * b) := by
  refine if_pos (hd ?_)
  have q : ∀ x : Int, x.natAbs < 2 ^ 400000 → x.natAbs.log2 < 400000 := fun x hx => by
    by_cases z : x.natAbs = 0
    · rw [z]; show Nat.log2 0 < _; rw [Nat.log2_zero]; omega
    · exact (Nat.log2_lt z).mpr hx
  have := q a h
  have := q b h'
  show _ < _
  omega
/-- small factors -/
theorem tMul_small {a b : Int} (h : a.natAbs < 4611686018427387904) (h' : b.natAbs < 4611686018427387904) : tMul a b = some (a * b) := by
  have e : ∀ x : Nat, x < 4611686018427387904 → x < 2 ^ 400000 := fun x hx => Nat.lt_of_lt_of_le hx (by
    have : (2 : Nat) ^ 62 ≤ 2 ^ 400000 := Nat.pow_le_pow_right (by omega) (by omega)
    exact this)
  exact tMul_some (e _ h) (e _ h')
end
end TL

namespace TL
open PySem PySem.Spec PyProof.Rows L2 DL
section
variable {σ σ' σ1 σ2 σb ι α β γ δ τ ν l : Type} {R : ER σ} {R' : ER σ'} {R1 : ER σ1} {R2 : ER σ2} {RI : ER ι} {RL : ER l} {e : α → D} {f : β → D} {h : γ → D} {k : δ → D} {ev : ν → D} {et : τ → D} {lo hi h1 a b : Nat}
theorem o_max1 : Op1 max1 (eL eI) eI maxI := ⟨fun x n c q => by
  show (intsD (x.map PyData.int)).bind _ = _
  rw [DL.ints_map, Option.bind_some, q]
  rfl⟩
theorem o_min1 : Op1 min1 (eL eI) eI minI := ⟨fun x n c q => by
  show (intsD (x.map PyData.int)).bind _ = _
  rw [DL.ints_map, Option.bind_some, q]
  rfl⟩
theorem o_sum2 : Op1 sum2D (eL eI) eI fun a => some a.sum := ⟨fun x n c q => by
  have := o_sum.op x n c q
  unfold sum2D
  rw [this]
  rfl⟩
theorem o_sumT : Op1 sum2D (eT eI) eI fun a => some a.sum := ⟨fun x n c q => by
  cases q
  show (none : Option D).or ((intsD (x.map PyData.int)).map fun ns => PyData.int ns.sum) = _
  rw [DL.ints_map]
  rfl⟩
noncomputable def tSortSet (ps : List (Int × Int)) : Option (List (Int × Int)) := if Hd (okP ps = true) then some (sortP (nubP ps)) else none
theorem oc_sortset : OpC sortSetD (eL (eP eI eI)) h1 (eL (eP eI eI)) 1 1 tSortSet := ⟨fun x n c hn q => by
  unfold tSortSet at q
  split at q
  case isFalse => cases q
  rename_i w
  have w : okP x = true := w
  cases q
  refine ⟨1, ?_, Nat.le_refl _, Nat.le_refl _⟩
  show (pairsD (x.map pairV)).bind _ = _
  rw [pairsD_map, Option.bind_some, if_pos w]
  rfl⟩
theorem tSortSet_some {ps : List (Int × Int)} (h : ps.length < 64) (h0 : ∀ p ∈ ps, 0 ≤ p.1 ∧ 0 ≤ p.2) : tSortSet ps = some (sortP (nubP ps)) := if_pos (hd (by
  unfold okP
  simp only [Bool.and_eq_true, decide_eq_true_eq, List.all_eq_true]
  exact ⟨h, h0⟩))
theorem oc_sortT : OpC sortedTD (eDc kII ev) h1 (eL (eP eI eI)) 1 1 fun xs => some (sortP (xs.map (·.1))) := ⟨fun x n c hn q => by
  cases q
  refine ⟨1, ?_, Nat.le_refl _, Nat.le_refl _⟩
  show (tOf (tdic _)).bind _ = _
  rw [tOf_tdic, Option.bind_some, List.map_map]
  have e : (x.map ((fun p : List Key × D => p.1) ∘ fun p => (kII p.1, ev p.2))) = (x.map (·.1)).map kPr := by
    rw [List.map_map]
    rfl
  rw [e, pairsK_map]
  rfl⟩
/-! lists of unlike things -/
def eQ2 (e : α → D) (f : β → D) (p : α × β) : D := .list [e p.1, f p.2]
def eQ3 (e : α → D) (f : β → D) (g : γ → D) (p : α × β × γ) : D := .list [e p.1, f p.2.1, g p.2.2]
def eQ4 (e : α → D) (f : β → D) (g : γ → D) (h : δ → D) (p : α × β × γ × δ) : D := .list [e p.1, f p.2.1, g p.2.2.1, h p.2.2.2]
/-! gone through, the state led along -/
structure TIX (R : ER σ) (g : AF) (e : α → D) (F : σ → Option (List α × σ')) (R' : ER σ') : Prop where
  ex : ∀ s ρ, R s ρ → ∀ x s', F s = some (x, s') → ∃ ρ', g ρ = .ok (x.map e, ρ') ∧ R' s' ρ'
theorem tix_L {g : EF} {F : σ → Option (List α × σ')} (q : TX R g (eL e) lo hi F R') : TIX R (seqD g) e F R' := ⟨fun s ρ r v s' z => by
  obtain ⟨n, ρ', a1, a2, a3, r'⟩ := q.ex s ρ r v s' z
  exact ⟨ρ', seqD_list a1, r'⟩⟩
theorem tix_T {g : EF} {F : σ → Option (List α × σ')} (q : TX R g (eT e) lo hi F R') : TIX R (seqD g) e F R' := ⟨fun s ρ r v s' z => by
  obtain ⟨n, ρ', a1, a2, a3, r'⟩ := q.ex s ρ r v s' z
  exact ⟨ρ', seqD_tuple a1, r'⟩⟩
theorem tix_r {g : EF} {F : σ → Option (Int × σ')} (q : TX R g eI lo hi F R') : TIX R (r1I (consO g nilO)) eI (fun s => (F s).bind fun p => (tRg p.1).map fun xs => (xs, p.2)) R' := ⟨fun s ρ r v s' z => by
  obtain ⟨⟨x, s1⟩, hx, z⟩ := bind_some' z
  simp only [Option.map_eq_some_iff, Prod.mk.injEq] at z
  obtain ⟨xs, z1, z2, z3⟩ := z
  subst z2 z3
  obtain ⟨n, ρ', a1, a2, a3, r'⟩ := q.ex s ρ r x s1 hx
  unfold tRg at z1
  split at z1
  · rename_i w
    cases z1
    refine ⟨ρ', r1I_of (xs := [(.int x, n)]) (by simp [a1, eI]) ?_, r'⟩
    rw [range1_int x n w.1 w.2, ← rng_rgT, Int.sub_zero]
  · cases z1⟩
@[simp] def tForX (FI : σ1 → Option (List α × σ2)) (w : σ2 → σ) (pu : α → σ → σb) (b : σb → Option (Fo τ ι σ σ)) : σ1 → Option (Fo τ ι σ l) := fun s => (FI s).bind fun xs => tFor pu b xs.1 (w xs.2)
theorem ts_forX {fi : AF} {g : GF} {f1 : SF} {FI : σ1 → Option (List α × σ2)} {w : σ2 → σ} {pu : α → σ → σb} {F : σb → Option (Fo τ ι σ σ)} {Rb : ER σb} (it : TIX R1 fi e FI R2) (k : Wk R2 w R) (tg : TG R g e pu Rb) (q : TS Rb f1 et a b RI R F R) : TS R1 (forS fi g f1) et a b RI RL (tForX FI w pu F) R := ⟨fun s ρ r o z => by
  obtain ⟨⟨xs, s2⟩, hx, z⟩ := bind_some' z
  obtain ⟨ρ1, a1, r1⟩ := it.ex s ρ r xs s2 hx
  -- the loop alone, over what was told
  have it2 : TI (fun (u : σ2) ρ' => u = s2 ∧ ρ' = ρ1) (fun ρ' => Res.ok (xs.map e, ρ')) e (fun _ => some xs) (fun (u : σ2) ρ' => u = s2 ∧ ρ' = ρ1) := ⟨fun u ρ' hu y hy => by cases hy; exact ⟨ρ', rfl, hu⟩⟩
  have k2 : Wk (fun (u : σ2) ρ' => u = s2 ∧ ρ' = ρ1) w R := ⟨fun u ρ' hu => by obtain ⟨rfl, rfl⟩ := hu; exact k.wk _ _ r1⟩
  have := (ts_for (RL := RL) it2 k2 tg q).ex s2 ρ1 ⟨rfl, rfl⟩ o (by simpa using z)
  have e1 : forS fi g f1 ρ = forS (fun ρ' => Res.ok (xs.map e, ρ')) g f1 ρ1 := by
    show (fi ρ >>= fun r => forF g f1 r.1 r.2) = _
    rw [a1]
    rfl
  rw [e1]
  exact this⟩
theorem tx_as {g : EF} {F : σ → Option (α × σ1)} {m : α → β} (q : TX R g e lo hi F R1) (w : ∀ x, e x = f (m x) := by exact fun _ => rfl) : TX R g f lo hi (fun s => (F s).map fun p => (m p.1, p.2)) R1 := ⟨fun s ρ r y s' z => by
  simp only [Option.map_eq_some_iff, Prod.mk.injEq] at z
  obtain ⟨⟨x, s1⟩, h1, h2, h3⟩ := z
  subst h2 h3
  rw [← w]
  exact q.ex s ρ r x _ h1⟩
/-! * -/
theorem on_mul2 {h1 h2 : Nat} : OpN mulD2 eI h1 eI h2 eI 0 0 tMul := ⟨fun a b c n m hn hm z => by
  obtain ⟨k, q1, q2⟩ := on_mul.op a b c n m hn hm z
  exact ⟨k, by unfold mulD2; rw [q1]; rfl, q2⟩⟩
theorem on_rep2 {h1 h2 : Nat} : OpN mulD2 (eT e) h1 eI h2 (eT e) 0 0 tRep := ⟨fun a b c n m hn hm z => by
  obtain ⟨k, q1, q2⟩ := on_rep.op a b c n m hn hm z
  exact ⟨k, by unfold mulD2; rw [q1]; rfl, q2⟩⟩
noncomputable def tRepL (a : List α) (k : Int) : Option (List α) := if Hd ((-(2 ^ 30) ≤ k ∧ k < 2 ^ 30) ∧ a.length * k.toNat ≤ line) then some (List.replicate k.toNat a).flatten else none
theorem tRepL_some {a : List α} {k : Nat} (h : a.length * k ≤ 1000000) (hk : k ≤ 1000000) : tRepL a (k : Int) = some (List.replicate k a).flatten := by
  unfold tRepL
  rw [if_pos (hd (by
    rw [Int.toNat_natCast]
    refine ⟨by omega, ?_⟩
    show _ ≤ 16777216
    omega)), Int.toNat_natCast]
end
section
variable {σ σ' σ1 σ2 σb ι α β γ δ τ ν l : Type} {R : ER σ} {R' : ER σ'} {R1 : ER σ1} {R2 : ER σ2} {RI : ER ι} {RL : ER l} {e : α → D} {f : β → D} {et : τ → D} {lo hi h1 a b : Nat}
/-! f(.., name), the last one lent -/
theorem ta_lent {i : Nat} {g : σ → α} (w : Get R i g e lo hi) : TAp R (lentF i) eNil (tK ()) R := ⟨fun s ρ r x z => by
  cases z
  obtain ⟨n, a1, _⟩ := w.get s ρ r
  exact ⟨ρ, by unfold lentF; rw [a1]; rfl, r⟩⟩
@[simp] def tCallB {τ' : Type} (G : τ' → Option β) (pm : τ → α → τ') (ge : σ → α) (F : σ → Option τ) : σ → Option β := fun s => (F s).bind fun t => G (pm t (ge s))
theorem te_callB {τ' : Type} {i k l1 u1 l2 u2 : Nat} {g : List D → Res (D × Nat)} {fa : AF} {E : τ → List D} {E' : τ' → List D} {G : τ' → Option β} {pm : τ → α → τ'} {ge : σ → α} {F : σ → Option τ} {R' : ER σ} (q : TF g E' f l1 u1 G) (x : TAp R fa E F R') (w : Get R' i ge e l2 u2) (hp : ∀ t c, E' (pm t c) = E t ++ [e c] := by exact fun _ _ => rfl) (hl : ∀ c, leafD (f c) = true := by exact fun _ => rfl) (wl : ∀ t, (E t).length + 1 = k := by exact fun _ => rfl) :
    TE R (callBE g k i fa) f 0 0 (tCallB G pm ge F) R' := ⟨fun s ρ r c z => by
  obtain ⟨t, h1, h2⟩ := bind_some' z
  obtain ⟨ρ', a1, r'⟩ := x.ex s ρ r t h1
  obtain ⟨n, b1, _⟩ := w.get s ρ' r'
  obtain ⟨m, c1, _⟩ := q.ex _ c h2
  rw [hp] at c1
  refine ⟨0, ρ', ?_, Nat.le_refl _, Nat.le_refl _, r'⟩
  show (fa ρ >>= fun r => liftO (getS r.2 i) >>= fun x => if r.1.length + 1 = k then callB_ (g (r.1 ++ [x.1])) r.2 else .stuck) = _
  rw [a1, bind_ok]
  dsimp only
  rw [b1, liftO_some, bind_ok, if_pos (wl t)]
  dsimp only
  rw [c1]
  show (if leafD (f c) = true then Res.ok (f c, 0, ρ') else .stuck) = _
  rw [if_pos (hl c)]⟩
/-! xs += ys -/
@[simp] noncomputable def tAugL (F : σ → Option (List α × σ1)) (ge : σ1 → List α) (pu : List α → σ1 → σ2) : σ → Option (Fo τ ι σ2 l) := fun s => (F s).bind fun v => (tCat (ge v.2) v.1).map fun xs => .nx (pu xs v.2)
theorem ts_augL {i : Nat} {f1 : EF} {g0 : σ → List α} {ge : σ1 → List α} {F : σ → Option (List α × σ1)} {pu : List α → σ1 → σ2} (w0 : Get R i g0 (eL e) 1 1) (q : TX R f1 (eL e) 1 1 F R1) (w1 : Get R1 i ge (eL e) 1 1) (w2 : Put R1 i (eL e) 1 1 pu R2) : TS R (augLF i f1) et a b RI RL (tAugL F ge pu) R2 := ⟨fun s ρ r o z => by
  obtain ⟨⟨v, s1⟩, h1, z⟩ := bind_some' z
  simp only [Option.map_eq_some_iff] at z
  obtain ⟨xs, h2, rfl⟩ := z
  obtain ⟨n0, c1, c2, c3⟩ := w0.get s ρ r
  obtain ⟨n, ρ', a1, a2, a3, r'⟩ := q.ex s ρ r v s1 h1
  obtain ⟨n1, d1, d2, d3⟩ := w1.get s1 ρ' r'
  have hn0 : n0 = 1 := by omega
  have hn1 : n1 = 1 := by omega
  have hn : n = 1 := by omega
  subst hn0 hn1 hn
  obtain ⟨hl, rfl⟩ := tCat_some h2
  refine ⟨_, ?_, w2.put _ _ _ 1 r' (Nat.le_refl _) (Nat.le_refl _)⟩
  have q1 : isOwnL (getS ρ i) = true := by rw [c1]; rfl
  show (if isOwnL (getS ρ i) = true then f1 ρ >>= fun y => liftO (extD (getS y.2.2 i) (some (y.1, y.2.1))) >>= fun x => Res.ok (Fl.nx, y.2.2.set i (some x)) else .stuck) = _
  rw [if_pos q1, a1, bind_ok]
  dsimp only
  rw [d1]
  have q2 : extD (some (eL e (ge s1), 1)) (some (eL e v, 1)) = some (eL e (ge s1 ++ v), 1) := by
    show (if (List.map e (ge s1)).length + (List.map e v).length ≤ line then some (PyData.list (List.map e (ge s1) ++ List.map e v), 1) else none) = some (PyData.list (List.map e (ge s1 ++ v)), 1)
    rw [if_pos (by rw [List.length_map, List.length_map]; exact hl), List.map_append]
  rw [q2]
  rfl⟩
end
section
variable {α : Type} {e : α → D} {h2 : Nat}
/-- the list is new -/
structure OpN1 (g : D × Nat → D × Nat → Option (D × Nat)) (e : α → D) (o : α → Int → Option α) : Prop where
  op : ∀ a b c m, o a b = some c → g (e a, 1) (eI b, m) = some (e c, 1)
theorem on_repL : OpN1 mulD2 (eL e) tRepL := ⟨fun a b c m z => by
  unfold tRepL at z
  split at z
  case isFalse => cases z
  rename_i w
  obtain ⟨w1, w2⟩ := (show (-(2 ^ 30) ≤ b ∧ b < 2 ^ 30) ∧ a.length * b.toNat ≤ line from w)
  cases z
  have q1 : mulD (eL e a, 1) (eI b, m) = none := by
    simp [mulD, mulI, iiD, eL, eI, mulT01]
  have q2 : repL (eL e a, 1) (eI b, m) = some (eL e (List.replicate b.toNat a).flatten, 1) := by
    show (if 1 = 1 ∧ (-(2 ^ 30) ≤ b ∧ b < 2 ^ 30) ∧ (a.map e).length * b.toNat ≤ line then some (PyData.list (List.replicate b.toNat (a.map e)).flatten, 1) else none) = _
    rw [if_pos ⟨rfl, w1, by rw [List.length_map]; exact w2⟩]
    show _ = some (PyData.list (((List.replicate b.toNat a).flatten).map e), 1)
    rw [List.map_flatten, List.map_replicate]
  unfold mulD2
  rw [q1, q2]
  rfl⟩
theorem tx_repL {σ σ1 σ2 : Type} {R : ER σ} {R1 : ER σ1} {R2 : ER σ2} {f1 f2 : EF} {lo2 hi2 : Nat} {F : σ → Option (List α × σ1)} {G : σ1 → Option (Int × σ2)} (x : TX R f1 (eL e) 1 1 F R1) (y : TX R1 f2 eI lo2 hi2 G R2) : TX R (binE mulD2 (d2E f1 f2)) (eL e) 1 1 (tBnX tRepL (tPrX F G)) R2 := ⟨fun s ρ r c s' z => by
  obtain ⟨⟨⟨u, v⟩, s3⟩, hx, z⟩ := bind_some' z
  obtain ⟨⟨u', s4⟩, hu, hx⟩ := bind_some' hx
  obtain ⟨⟨v', s5⟩, hv, hx⟩ := bind_some' hx
  cases hx
  simp only [Option.map_eq_some_iff, Prod.mk.injEq] at z
  obtain ⟨c', z1, z2, z3⟩ := z
  subst z2 z3
  obtain ⟨n, ρ1, a1, a2, a3, r1⟩ := x.ex s ρ r u' s4 hu
  obtain ⟨m, ρ2, b1, b2, b3, r2⟩ := y.ex s4 ρ1 r1 v' _ hv
  have hn : n = 1 := by omega
  subst hn
  refine ⟨1, ρ2, ?_, Nat.le_refl _, Nat.le_refl _, r2⟩
  have := (on_repL (e := e)).op u' v' c' m z1
  simp only [binE, d2E, a1, b1, bind_ok, this, liftO_some]⟩
theorem te_repL {σ : Type} {R R1 R2 : ER σ} {f1 f2 : EF} {lo2 hi2 : Nat} {F : σ → Option (List α)} {G : σ → Option Int} (x : TE R f1 (eL e) 1 1 F R1) (y : TE R1 f2 eI lo2 hi2 G R2) : TE R (binE mulD2 (d2E f1 f2)) (eL e) 1 1 (tBn tRepL (tPr F G)) R2 := (tx_repL x.x y.x).p fun s => by
  cases q : F s <;> simp [q]
  cases q2 : G s <;> simp
end
end TL

namespace TL
open PySem PySem.Spec PyProof.Rows L2 DL
section
variable {σ σ' σ1 σ2 σ3 ι α β γ κ ν τ l : Type} {R : ER σ} {R' : ER σ'} {R1 : ER σ1} {R2 : ER σ2} {R3 : ER σ3} {RI : ER ι} {RL : ER l} {e : α → D} {ev : ν → D} {et : τ → D} {lo hi lo1 hi1 lo2 hi2 h1 h2 a b : Nat} {i j : Nat} {c : Str}
/-! ### what may raise one kind of error -/
def XOk (e : α → D) (lo hi : Nat) (R' : ER σ) (c : Str) (s : σ) (ρ : Env') (r : Res (D × Nat × Env')) : Option α → Prop
  | some a => ∃ n ρ', r = .ok (e a, n, ρ') ∧ lo ≤ n ∧ n ≤ hi ∧ R' s ρ'
  | none => ∃ ρ', r = .exc (.plain c) ρ' ∧ ρ'.length = ρ.length ∧ R' s ρ'
structure TXE (R : ER σ) (f : EF) (e : α → D) (lo hi : Nat) (c : Str) (F : σ → Option (Option α)) (R' : ER σ) : Prop where
  ex : ∀ s ρ, R s ρ → ∀ o, F s = some o → XOk e lo hi R' c s ρ (f ρ) o
def GOk (e : α → D) (lo hi : Nat) (c : Str) (r : Res (D × Nat)) : Option α → Prop
  | some a => ∃ n, r = .ok (e a, n) ∧ lo ≤ n ∧ n ≤ hi
  | none => ∃ ρ, r = .exc (.plain c) ρ
structure TFE (g : List D → Res (D × Nat)) (E : τ → List D) (e : α → D) (lo hi : Nat) (c : Str) (F : τ → Option (Option α)) : Prop where
  ex : ∀ x o, F x = some o → GOk e lo hi c (g (E x)) o
def LnA (g : AF) : Prop := ∀ ρ x ρ', g ρ = .ok (x, ρ') → ρ'.length = ρ.length
def LnE (f : EF) : Prop := ∀ ρ d n ρ', f ρ = .ok (d, n, ρ') → ρ'.length = ρ.length
def LnT (f : Env' → Res (Bool × Env')) : Prop := ∀ ρ k ρ', f ρ = .ok (k, ρ') → ρ'.length = ρ.length
theorem ln_nil : LnA nilA := fun ρ x ρ' h => by cases h; rfl
theorem ln_cons {f : EF} {g : AF} (x : LnE f) (y : LnA g) : LnA (consA f g) := fun ρ z ρ' h => by
  simp only [consA] at h
  cases hf : f ρ with
  | stuck => rw [hf] at h; cases h
  | exc _ _ => rw [hf] at h; cases h
  | ok u =>
    obtain ⟨d, n, ρ1⟩ := u
    rw [hf, bind_ok] at h
    cases hg : g ρ1 with
    | stuck => rw [hg] at h; cases h
    | exc _ _ => rw [hg] at h; cases h
    | ok w =>
      obtain ⟨ds, ρ2⟩ := w
      rw [hg, bind_ok] at h
      cases h
      rw [y _ _ _ hg, x _ _ _ _ hf]
theorem ln_v {k : Nat} : LnE (vE k) := fun ρ d n ρ' h => by
  simp only [vE, frzS] at h
  split at h
  · cases h
    split <;> simp
  · cases h
theorem ln_p {f : PF} : LnE (p1 f) := fun ρ d n ρ' h => by
  simp only [p1] at h
  cases hg : f ρ with
  | none => rw [hg] at h; cases h
  | some x => rw [hg] at h; cases h; rfl
theorem ln_val {f : EF} (x : LnE f) : LnT (valT f) := fun ρ k ρ' h => by
  simp only [valT] at h
  cases hf : f ρ with
  | stuck => rw [hf] at h; cases h
  | exc _ _ => rw [hf] at h; cases h
  | ok u =>
    obtain ⟨d, n, ρ1⟩ := u
    rw [hf, bind_ok] at h
    cases hb : isB d with
    | none => simp [hb, liftO] at h
    | some k' =>
      simp [hb, liftO] at h
      rw [← h.2]
      exact x _ _ _ _ hf
theorem txe_call {g : List D → Res (D × Nat)} {fa : AF} {E : τ → List D} {k : Nat} {G : τ → Option (Option α)} {F : σ → Option τ} {R' : ER σ} (q : TFE g E e lo hi c G) (x : TAp R fa E F R') (ln : LnA fa) (wl : ∀ x, (E x).length = k := by exact fun _ => rfl) : TXE R (callDE g k fa) e lo hi c (tOp1 G F) R' := ⟨fun s ρ r o z => by
  obtain ⟨u, hu, z⟩ := bind_some' z
  obtain ⟨ρ', a1, r'⟩ := x.ex s ρ r u hu
  have q1 := q.ex u o z
  cases o with
  | none =>
    obtain ⟨ρ2, b1⟩ := q1
    exact ⟨ρ', by simp [a1, wl u, b1, callR], ln _ _ _ a1, r'⟩
  | some v =>
    obtain ⟨n, b1, b2, b3⟩ := q1
    exact ⟨n, ρ', by simp [a1, wl u, b1, callR], b2, b3, r'⟩⟩
theorem txe_callK {τ' : Type} {g : List D → Res (D × Nat)} {fa : AF} {E : τ → List D} {E' : τ' → List D} {m k : Nat} {π : List Nat} {pm : τ → τ'} {G : τ' → Option (Option α)} {F : σ → Option τ} {R' : ER σ} (q : TFE g E' e lo hi c G) (x : TAp R fa E F R') (ln : LnA fa) (w : ∀ x, permF π (E x) = E' (pm x) := by exact fun _ => rfl) (wl : ∀ x, (E x).length = m := by exact fun _ => rfl) (wk : ∀ x, (E' x).length = k := by exact fun _ => rfl) : TXE R (callKE g m k π fa) e lo hi c (tOp1 (fun x => G (pm x)) F) R' := ⟨fun s ρ r o z => by
  obtain ⟨u, hu, z⟩ := bind_some' z
  obtain ⟨ρ', a1, r'⟩ := x.ex s ρ r u hu
  have q1 := q.ex _ o z
  cases o with
  | none =>
    obtain ⟨ρ2, b1⟩ := q1
    exact ⟨ρ', by simp [a1, w u, wl u, wk (pm u), b1, callR], ln _ _ _ a1, r'⟩
  | some v =>
    obtain ⟨n, b1, b2, b3⟩ := q1
    exact ⟨n, ρ', by simp [a1, w u, wl u, wk (pm u), b1, callR], b2, b3, r'⟩⟩
theorem txe_if {cf : Env' → Res (Bool × Env')} {f1 f2 : EF} {C : σ → Option Bool} {F G : σ → Option (Option α)} {R1 R2 : ER σ} (q : TT R cf C R1) (ln : LnT cf) (x : TXE R1 f1 e lo hi c F R2) (y : TXE R1 f2 e lo hi c G R2) : TXE R (ifR cf f1 f2) e lo hi c (tIte C F G) R2 := ⟨fun s ρ r o z => by
  obtain ⟨k, hk, z⟩ := bind_some' z
  obtain ⟨ρ1, a1, r1⟩ := q.ex s ρ r k hk
  have l1 := ln _ _ _ a1
  have fin : ∀ (f : EF), f = (if k = true then f1 else f2) → XOk e lo hi R2 c s ρ1 (f ρ1) o → XOk e lo hi R2 c s ρ (ifR cf f1 f2 ρ) o := fun f ef h => by
    have ei : ifR cf f1 f2 ρ = f ρ1 := by subst ef; simp [a1]; cases k <;> rfl
    rw [ei]
    cases o with
    | none => obtain ⟨ρ', b1, b2, b3⟩ := h; exact ⟨ρ', b1, b2.trans l1, b3⟩
    | some v => exact h
  cases k with
  | true => exact fin f1 rfl (x.ex s ρ1 r1 o z)
  | false => exact fin f2 rfl (y.ex s ρ1 r1 o z)⟩
theorem txe_as {f : EF} {F : σ → Option (Option α)} {e' : β → D} {m : α → β} {R' : ER σ} (q : TXE R f e lo hi c F R') (w : ∀ a, e' (m a) = e a := by exact fun _ => rfl) : TXE R f e' lo hi c (fun s => (F s).map fun o => o.map m) R' := ⟨fun s ρ r o z => by
  simp only [Option.map_eq_some_iff] at z
  obtain ⟨o1, h1, rfl⟩ := z
  have := q.ex s ρ r o1 h1
  cases o1 with
  | none => exact this
  | some v =>
    obtain ⟨n, ρ', b1, b2⟩ := this
    exact ⟨n, ρ', by rw [b1, w v], b2⟩⟩
/-- try: name = .. except C: .. -/
@[simp] def tTry (F : σ → Option (Option α)) (pu : α → σ → σ2) (G : σ → Option (Fo τ ι σ2 l)) : σ → Option (Fo τ ι σ2 l) := fun s => (F s).bind fun o => match o with
  | some v => some (.nx (pu v s))
  | none => G s
theorem ts_try {f : EF} {g : SF} {sub : Str → Option Bool} {rest : List Hd1} {F : σ → Option (Option α)} {pu : α → σ → σ2} {G : σ → Option (Fo τ ι σ2 l)} {R1 : ER σ} (q : TXE R f e lo hi c F R1) (w : Put R1 i e lo hi pu R2) (hs : sub c = some true) (y : TS R1 g et a b RI RL G R2) : TS R (tryF (asgF f (gNameD i)) ((sub, g) :: rest)) et a b RI RL (tTry F pu G) R2 := ⟨fun s ρ r o z => by
  obtain ⟨o1, h1, z⟩ := bind_some' z
  have q1 := q.ex s ρ r o1 h1
  cases o1 with
  | some v =>
    cases z
    obtain ⟨n, ρ', b1, b2, b3, r'⟩ := q1
    exact ⟨_, by simp [tryF, asgF, b1, gNameD], w.put _ _ _ _ r' b2 b3⟩
  | none =>
    obtain ⟨ρ', b1, b2, r'⟩ := q1
    have q2 := y.ex s ρ' r' o z
    have e1 : tryF (asgF f (gNameD i)) ((sub, g) :: rest) ρ = nx (g ρ') := by
      have hb : asgF f (gNameD i) ρ = .exc (.plain c) ρ' := by simp [asgF, b1]
      unfold tryF
      rw [hb]
      dsimp only
      rw [if_pos b2]
      show (match sub c with | some true => nx (g ρ') | some false => _ | none => _) = _
      rw [hs]
    have e2 : nx (g ρ') = g ρ' := by
      cases o with
      | nx s' => obtain ⟨ρ2, d1, _⟩ := q2; rw [d1]; rfl
      | bk s' => obtain ⟨ρ2, d1, _⟩ := q2; rw [d1]; rfl
      | ct s' => obtain ⟨ρ2, d1, _⟩ := q2; rw [d1]; rfl
      | rt v u => obtain ⟨n, ρ2, d1, _⟩ := q2; rw [d1]; rfl
    rw [e1, e2]
    exact q2⟩
/-! a def that may raise -/
def SOk (et : τ → D) (lo hi : Nat) (c : Str) (R' : ER σ') (r : Res (Fl × Env')) : Fo (Option τ) Unit σ' Empty → Prop
  | .nx s => ∃ ρ', r = .ok (.nx, ρ') ∧ R' s ρ'
  | .rt (some v) _ => ∃ n ρ', r = .ok (.rt (et v) n, ρ') ∧ lo ≤ n ∧ n ≤ hi
  | .rt none _ => ∃ ρ', r = .exc (.plain c) ρ'
  | .bk s => s.elim
  | .ct s => s.elim
structure TSX (R : ER σ) (f : SF) (et : τ → D) (lo hi : Nat) (c : Str) (F : σ → Option (Fo (Option τ) Unit σ' Empty)) (R' : ER σ') : Prop where
  ex : ∀ s ρ, R s ρ → ∀ o, F s = some o → SOk et lo hi c R' (f ρ) o
def upFo : Fo τ Unit σ' Empty → Fo (Option τ) Unit σ' Empty
  | .nx s => .nx s
  | .rt v i => .rt (some v) i
  | .bk s => s.elim
  | .ct s => s.elim
@[simp] theorem upFo_nx {s : σ'} : (upFo (.nx s) : Fo (Option τ) Unit σ' Empty) = .nx s := rfl
@[simp] theorem upFo_rt {v : τ} {i : Unit} : (upFo (.rt v i) : Fo (Option τ) Unit σ' Empty) = .rt (some v) i := rfl
theorem tsx_up {f1 : SF} {F : σ → Option (Fo τ Unit σ1 Empty)} (q : TS R f1 et lo hi Rn NoL F R1) : TSX R (nxS f1) et lo hi c (fun s => (F s).map upFo) R1 := ⟨fun s ρ r o z => by
  simp only [Option.map_eq_some_iff] at z
  obtain ⟨o1, h1, rfl⟩ := z
  have q1 := q.ex s ρ r o1 h1
  cases o1 with
  | nx s' => obtain ⟨ρ', b1, r'⟩ := q1; exact ⟨ρ', by simp [nxS, b1], r'⟩
  | bk s' => exact s'.elim
  | ct s' => exact s'.elim
  | rt v u => obtain ⟨n, ρ', b1, b2, b3, _⟩ := q1; exact ⟨n, ρ', by simp [nxS, b1], b2, b3⟩⟩
@[simp] def tSeqX (F : σ → Option (Fo (Option τ) Unit σ1 Empty)) (G : σ1 → Option (Fo (Option τ) Unit σ2 Empty)) : σ → Option (Fo (Option τ) Unit σ2 Empty) := fun s => (F s).bind fun o => match o with
  | .nx s' => G s'
  | .rt v i => some (.rt v i)
  | .bk s' => s'.elim
  | .ct s' => s'.elim
theorem tsx_seq {f1 f2 : SF} {F : σ → Option (Fo (Option τ) Unit σ1 Empty)} {G : σ1 → Option (Fo (Option τ) Unit σ2 Empty)} (q : TSX R f1 et lo hi c F R1) (w : TSX R1 f2 et lo hi c G R2) : TSX R (seqF f1 f2) et lo hi c (tSeqX F G) R2 := ⟨fun s ρ r o z => by
  obtain ⟨o1, h1, z⟩ := bind_some' z
  have q1 := q.ex s ρ r o1 h1
  cases o1 with
  | nx s' =>
    obtain ⟨ρ', b1, r'⟩ := q1
    have := w.ex s' ρ' r' o z
    simpa [b1] using this
  | bk s' => exact s'.elim
  | ct s' => exact s'.elim
  | rt v u =>
    cases z
    cases v with
    | none => obtain ⟨ρ', b1⟩ := q1; exact ⟨ρ', by simp [b1]⟩
    | some v => obtain ⟨n, ρ', b1, b2⟩ := q1; exact ⟨n, ρ', by simp [b1], b2⟩⟩
theorem tsx_if {cf : Env' → Res (Bool × Env')} {f1 f2 : SF} {C : σ → Option Bool} {F G : σ → Option (Fo (Option τ) Unit σ2 Empty)} {R1 : ER σ} (q : TT R cf C R1) (x : TSX R1 f1 et lo hi c F R2) (y : TSX R1 f2 et lo hi c G R2) : TSX R (ifS (nxS cf) f1 f2) et lo hi c (tIte C F G) R2 := ⟨fun s ρ r o z => by
  obtain ⟨k, hk, z⟩ := bind_some' z
  obtain ⟨ρ1, a1, r1⟩ := q.ex s ρ r k hk
  have e1 : nxS cf ρ = .ok (k, ρ1) := by simp [nxS, a1]
  cases k with
  | true => have := x.ex s ρ1 r1 o z; simpa [e1] using this
  | false => have := y.ex s ρ1 r1 o z; simpa [e1] using this⟩
theorem tsx_nil : TSX R nilS et lo hi c (fun s => some (.nx s)) R := ⟨fun s ρ r o z => by cases z; exact ⟨ρ, rfl, r⟩⟩
theorem tsx_pre {f1 : SF} {p : σ → σ1} {F : σ1 → Option (Fo (Option τ) Unit σ2 Empty)} (w : Wk R p R1) (q : TSX R1 f1 et lo hi c F R2) : TSX R f1 et lo hi c (tPre p F) R2 := ⟨fun s ρ r o z => q.ex _ ρ (w.wk s ρ r) o z⟩
theorem ttx_not {cf : Env' → Res (Bool × Env')} {C : σ → Option (Bool × σ1)} (q : TTX R cf C R1) : TTX R (notT cf) (fun s => (C s).map fun k => (!k.1, k.2)) R1 := ⟨fun s ρ r k s' z => by
  simp only [Option.map_eq_some_iff] at z
  obtain ⟨⟨k1, s1⟩, h1, z⟩ := z
  cases z
  obtain ⟨ρ', a1, r'⟩ := q.ex s ρ r k1 s1 h1
  exact ⟨ρ', by simp [a1], r'⟩⟩
theorem ttx_wk {cf : Env' → Res (Bool × Env')} {C : σ → Option (Bool × σ1)} {p : σ1 → σ2} (q : TTX R cf C R1) (w : Wk R1 p R2) : TTX R cf (fun s => (C s).map fun k => (k.1, p k.2)) R2 := ⟨fun s ρ r k s' z => by
  simp only [Option.map_eq_some_iff] at z
  obtain ⟨⟨k1, s1⟩, h1, z⟩ := z
  cases z
  obtain ⟨ρ', a1, r'⟩ := q.ex s ρ r k1 s1 h1
  exact ⟨ρ', a1, w.wk _ _ r'⟩⟩
theorem tsx_nev {f : SF} : TSX R f et lo hi c (fun _ => none) R' := ⟨fun s ρ r o z => by cases z⟩
theorem tsx_raise : TSX R (raiseS c) et lo hi c (fun _ => some (.rt none ())) R' := ⟨fun s ρ r o z => by cases z; exact ⟨ρ, rfl⟩⟩
@[simp] def tRunX (F : τ → Option (Fo (Option α) Unit σ' Empty)) : τ → Option (Option α) := fun x => (F x).bind fun o => match o with
  | .rt v _ => some v
  | _ => none
theorem tfe_run {f1 : SF} {N k m : Nat} {E : τ → List D} {R : ER τ} {F : τ → Option (Fo (Option α) Unit σ' Empty)} (hi0 : Ini R E k) (q : TSX R f1 e lo hi c F R') (wl : ∀ x, (E x).length = m := by exact fun _ => rfl) (wk : m + k = N := by decide) : TFE (runX N f1) E e lo hi c (tRunX F) := ⟨fun x v z => by
  obtain ⟨o, h1, z⟩ := bind_some' z
  have i0 := hi0.ini x
  have e0 : env0 N ((E x).map fun d => (d, 0)) = (E x).map (fun d => some (d, 0)) ++ List.replicate k none := by
    unfold env0
    rw [List.map_map, List.length_map, wl x, show N - m = k by omega]
    rfl
  rw [← e0] at i0
  have q1 := q.ex x _ i0 o h1
  cases o with
  | nx s' => cases z
  | bk s' => exact s'.elim
  | ct s' => exact s'.elim
  | rt v' u =>
    cases z
    cases v with
    | none => obtain ⟨ρ', b1⟩ := q1; exact ⟨[], by simp [runX, b1, endX]⟩
    | some v => obtain ⟨n, ρ', b1, b2⟩ := q1; exact ⟨n, by simp [runX, b1, endX], b2⟩⟩
/-! ### dicts whose keys are ints -/
def eDi (ev : ν → D) (xs : List (Int × ν)) : D := kdic (xs.map fun p => (p.1, ev p.2))
theorem te_dicK : TE R dicK (eDi ev) 1 1 (tK []) R := ⟨fun s ρ r v z => by cases z; exact ⟨1, ρ, rfl, Nat.le_refl _, Nat.le_refl _, r⟩⟩
def tLook (xs : List (Int × ν)) (k : Int) : Option ν := (xs.find? fun p => decide (p.1 = k)).map (·.2)
theorem lookK_map (xs : List (Int × ν)) (k : Int) : lookK (xs.map fun p => (p.1, ev p.2)) k = (tLook xs k).map ev := by
  unfold lookK tLook
  induction xs with
  | nil => rfl
  | cons x xs ih =>
    rw [List.map_cons, List.find?_cons, List.find?_cons]
    by_cases h : x.1 = k
    · simp [h]
    · simpa [h] using ih
theorem kAny_at {d : D} {n : Nat} {es : KD} (h : kOf d = some es) (hn : n ≤ 1) : kAny (some (d, n)) = some es := by
  match n, hn with
  | 0, _ => exact h
  | 1, _ => exact h
theorem tp_dget {fk : PF} {g : σ → List (Int × ν)} {K : σ → Option Int} {u0 : Nat} (w : Get R i g (eDi ev) lo u0) (k : TP R fk eI h1 K) (hu : u0 ≤ 1 := by decide) : TP R (dgetP i fk) ev 0 (fun s => (K s).bind fun k => tLook (g s) k) := ⟨fun s ρ r v z => by
  obtain ⟨y, hy, z⟩ := bind_some' z
  obtain ⟨n, a1, a2, a3⟩ := w.get s ρ r
  obtain ⟨m, b1, _⟩ := k.ex s ρ r y hy
  refine ⟨0, ?_, Nat.le_refl _⟩
  unfold dgetP
  rw [a1, kAny_at (d := eDi ev (g s)) (kOf_kdic _) (by omega)]
  simp [b1, eI, isI, lookK_map, z]⟩
theorem te_dget {fk : PF} {fd : EF} {g : σ → List (Int × ν)} {K : σ → Option Int} {F : σ → Option ν} {R1 : ER σ} {u0 u1 : Nat} (w0 : Get R i g (eDi ev) lo u0) (k : TP R fk eI h1 K) (x : TE R fd ev lo1 hi1 F R1) (w : Get R1 i g (eDi ev) lo2 u1) (hu : u0 ≤ 1 := by decide) (hu1 : u1 ≤ 1 := by decide) : TE R (dgetE i fk fd) ev 0 0 (fun s => (K s).bind fun k => (F s).map fun y => (tLook (g s) k).getD y) R1 := ⟨fun s ρ r v z => by
  obtain ⟨y, hy, z⟩ := bind_some' z
  simp only [Option.map_eq_some_iff] at z
  obtain ⟨d, hd, rfl⟩ := z
  obtain ⟨n, a1, a2, a3⟩ := w0.get s ρ r
  obtain ⟨m, b1, _⟩ := k.ex s ρ r y hy
  obtain ⟨n1, ρ1, c1, _, _, r1⟩ := x.ex s ρ r d hd
  obtain ⟨n2, d1, _, d3⟩ := w.get s ρ1 r1
  refine ⟨0, ρ1, ?_, Nat.le_refl _, Nat.le_refl _, r1⟩
  unfold dgetE
  rw [a1, kAny_at (d := eDi ev (g s)) (kOf_kdic _) (by omega), if_pos (Option.isSome_some), b1]
  simp only [eI, isI, Option.bind_some, liftO, bind_ok]
  rw [c1, bind_ok]
  dsimp only
  rw [d1, kAny_at (d := eDi ev (g s)) (kOf_kdic _) (by omega)]
  simp only [bind_ok, lookK_map]
  cases tLook (g s) y <;> rfl⟩
theorem putKD_map (xs : List (Int × ν)) (k : Int) (v : ν) : putKD (xs.map fun p => (p.1, ev p.2)) k (ev v) = (tPut xs k v).map fun p => (p.1, ev p.2) := by
  have e1 : ((xs.map fun p => (p.1, ev p.2)).any fun p => decide (p.1 = k)) = xs.any fun p => decide (p.1 = k) := by
    rw [List.any_map]
    rfl
  unfold putKD tPut
  rw [e1]
  by_cases h : (xs.any fun p => decide (p.1 = k)) = true
  · rw [if_pos h, if_pos h, List.map_map, List.map_map]
    refine List.map_congr_left fun p _ => ?_
    show (if p.1 = k then (p.1, ev v) else (p.1, ev p.2)) = ((if p.1 = k then (p.1, v) else p).1, ev (if p.1 = k then (p.1, v) else p).2)
    by_cases q : p.1 = k
    · rw [if_pos q, if_pos q]
    · rw [if_neg q, if_neg q]
  · rw [if_neg h, if_neg h, List.map_append]
    rfl
@[simp] noncomputable def tPutKS (F : σ → Option (ν × σ1)) (K : σ1 → Option Int) (ge : σ1 → List (Int × ν)) (pu : List (Int × ν) → σ1 → σ2) : σ → Option (Fo τ ι σ2 l) := fun s => (F s).bind fun v => (K v.2).bind fun k => (tPutO (ge v.2) k v.1).map fun xs => .nx (pu xs v.2)
theorem ts_putK {fv : EF} {fk : PF} {ge : σ1 → List (Int × ν)} {F : σ → Option (ν × σ1)} {K : σ1 → Option Int} {pu : List (Int × ν) → σ1 → σ2} (x : TX R fv ev lo hi F R1) (w : Get R1 i ge (eDi ev) 1 1) (y : TP R1 fk eI h1 K) (w3 : Put R1 i (eDi ev) 1 1 pu R2) : TS R (putKF i fv fk) et a b RI RL (tPutKS F K ge pu) R2 := ⟨fun s ρ r o z => by
  obtain ⟨⟨v, s1⟩, hv, z⟩ := bind_some' z
  obtain ⟨k, hk, z⟩ := bind_some' z
  simp only [Option.map_eq_some_iff] at z
  obtain ⟨xs, hx, rfl⟩ := z
  unfold tPutO at hx
  split at hx
  case isFalse => cases hx
  rename_i hl
  cases hx
  obtain ⟨n, ρ1, a1, _, _, r1⟩ := x.ex s ρ r v s1 hv
  obtain ⟨n1, b1, b2, b3⟩ := w.get _ _ r1
  obtain ⟨m, c1, _⟩ := y.ex s1 ρ1 r1 k hk
  have hn1 : n1 = 1 := by omega
  subst hn1
  refine ⟨_, ?_, w3.put _ _ _ 1 r1 (Nat.le_refl _) (Nat.le_refl _)⟩
  unfold putKF
  rw [a1, bind_ok]
  dsimp only
  have q2 : kAt (getS ρ1 i) = some ((ge s1).map fun p => (p.1, ev p.2)) := by rw [b1]; exact kOf_kdic _
  rw [q2, c1]
  simp only [eI, isI, Option.bind_some, liftO, bind_ok]
  rw [if_pos (by rw [List.length_map]; exact hl), putKD_map]
  rfl⟩
theorem ti_dicK {g : σ → List (Int × ν)} {R' : ER σ} {pu : List (Int × ν) → σ → σ} (w : Get R i g (eDi ev) 1 1) (w2 : Put R i (eDi ev) 0 0 pu R') (e1 : ∀ s, pu (g s) s = s := by exact fun _ => rfl) : TI R (fun ρ => liftO (freezeK i ρ)) eI (fun s => some ((g s).map (·.1))) R' := ⟨fun s ρ r xs z => by
  cases z
  obtain ⟨n, a1, a2, a3⟩ := w.get s ρ r
  have hn : n = 1 := by omega
  subst hn
  have r' := w2.put s ρ (g s) 0 r (Nat.le_refl _) (Nat.le_refl _)
  rw [e1] at r'
  refine ⟨_, ?_, r'⟩
  have q2 : kAt (getS ρ i) = some ((g s).map fun p => (p.1, ev p.2)) := by rw [a1]; exact kOf_kdic _
  unfold freezeK
  rw [q2]
  show Res.ok (keysKD _, _) = _
  congr 2
  rw [keysKD, List.map_map, List.map_map]
  rfl⟩
/-! ### sorted of tuples of ints, and of a set of ints -/
def tSortL (xs : List (List Int)) : Option (List (List Int)) := if (xs.all fun p => !p.isEmpty) = true then some (sortL xs) else none
theorem lissD_map : ∀ {xs : List (List Int)}, (xs.all fun p => !p.isEmpty) = true → lissD (xs.map (eT eI)) = some xs
  | [], _ => rfl
  | x :: xs, h => by
    rw [List.all_cons, Bool.and_eq_true] at h
    rw [List.map_cons, lissD, lissD_map h.2]
    have : lisOf (eT eI x) = some x := by
      unfold lisOf eT
      dsimp only
      rw [show intsD (x.map eI) = some x from ints_map x, Option.bind_some]
      have := h.1
      cases hx : x.isEmpty with
      | true => rw [hx] at this; cases this
      | false => simp
    rw [this]
    rfl
theorem oc_sortL : OpC sortedLD (eL (eT eI)) h1 (eL (eT eI)) 1 1 tSortL := ⟨fun x n c hn q => by
  unfold tSortL at q
  split at q
  case isFalse => cases q
  rename_i w
  cases q
  refine ⟨1, ?_, Nat.le_refl _, Nat.le_refl _⟩
  show (lissD (x.map (eT eI))).map _ = _
  rw [lissD_map w]
  rfl⟩
def tSetI (xs : List Int) : Option (List Int) := if xs.length < 64 then some (setI xs) else none
theorem oc_setI : OpC sortSetI (eT eI) h1 (eL eI) 1 1 tSetI := ⟨fun x n c hn q => by
  unfold tSetI at q
  split at q
  case isFalse => cases q
  rename_i w
  cases q
  refine ⟨1, ?_, Nat.le_refl _, Nat.le_refl _⟩
  show (intsD (x.map eI)).bind _ = _
  rw [show intsD (x.map eI) = some x from ints_map x, Option.bind_some, if_pos w]
  rfl⟩
/-! ### name[k] = value, k drawn -/
theorem td_V {f : β → D} {fk : EF} {g0 : σ → α} {ge : σ1 → α} {K : σ → Option (β × σ1)} {l0 u0 l1 : Nat} (w0 : Get R i g0 e l0 u0) (k : TX R fk f lo2 h2 K R1) (w : Get R1 i ge e l1 h1) : TD R (d2V i fk) e h1 f h2 (fun s => (K s).map fun p => ((ge p.2, p.1), p.2)) R1 := ⟨fun s ρ r x y s' z => by
  simp only [Option.map_eq_some_iff] at z
  obtain ⟨⟨y', s1⟩, hy, z⟩ := z
  cases z
  obtain ⟨n0, a0, _⟩ := w0.get s ρ r
  obtain ⟨m, ρ1, b1, b2, b3, r1⟩ := k.ex s ρ r y' s1 hy
  obtain ⟨n1, d1, d2, d3⟩ := w.get s1 ρ1 r1
  exact ⟨n1, m, ρ1, by simp [d2V, a0, b1, d1], d3, b3, r1⟩⟩
@[simp] def tSetES (F : σ → Option (α × σ1)) (K : σ1 → Option (Int × σ2)) (ge : σ2 → List α) (pu : List α → σ2 → σ3) : σ → Option (Fo τ ι σ3 l) := fun s => (F s).bind fun v => (K v.2).bind fun k => (tSet (ge k.2) k.1 v.1).map fun xs => .nx (pu xs k.2)
theorem ts_setE {f1 fk : EF} {g0 : σ1 → List α} {ge : σ2 → List α} {F : σ → Option (α × σ1)} {K : σ1 → Option (Int × σ2)} {pu : List α → σ2 → σ3} (st : Still e) (q : TX R f1 e lo hi F R1) (w0 : Get R1 i g0 (eL e) h1 h2) (q1 : TX R1 fk eI lo1 hi1 K R2) (w1 : Get R2 i ge (eL e) 1 1) (w2 : Put R2 i (eL e) 1 1 pu R3) : TS R (asgF f1 (gSetE i fk)) et a b RI RL (tSetES F K ge pu) R3 := ⟨fun s ρ r o z => by
  obtain ⟨⟨v, s1⟩, hv, z⟩ := bind_some' z
  obtain ⟨⟨k, s2⟩, hk, z⟩ := bind_some' z
  simp only [Option.map_eq_some_iff] at z
  obtain ⟨xs, hx, rfl⟩ := z
  obtain ⟨n, ρ1, a1, a2, a3, r1⟩ := q.ex s ρ r v s1 hv
  obtain ⟨n0, b0, _⟩ := w0.get s1 ρ1 r1
  obtain ⟨m, ρ2, c1, _, _, r2⟩ := q1.ex s1 ρ1 r1 k s2 hk
  obtain ⟨n1, d1, d2, d3⟩ := w1.get s2 ρ2 r2
  have hn1 : n1 = 1 := by omega
  subst hn1
  unfold tSet at hx
  simp only [Option.map_eq_some_iff] at hx
  obtain ⟨j, hj, rfl⟩ := hx
  refine ⟨_, ?_, w2.put _ _ _ 1 r2 (Nat.le_refl _) (Nat.le_refl _)⟩
  simp [a1, gSetE, st v, b0, c1, d1, eI, isI, setD, eL, hj, List.map_set]⟩
end
end TL

/-! lands, rows, what hangs together: no program in sight -/
namespace Q
open PySem PySem.Spec PyProof.Rows L2 DL TL
def BOk (n : Int) (B : List (Int × Int)) : Prop := ∀ p ∈ B, 0 ≤ p.1 ∧ p.1 < p.2 ∧ p.2 < n
abbrev BSt (B : List (Int × Int)) : Prop := B.Pairwise fun p q => SrtO.lexB p q = true
/-- a right land -/
structure LOk (folk : List Int) (B : List (Int × Int)) : Prop where
  two : 2 ≤ folk.length
  twelve : folk.length ≤ 12
  many : ∀ i ∈ folk, 0 ≤ i ∧ i ≤ 1000000
  bord : BOk folk.length B
  sort : BSt B
theorem sorted_zip : ∀ {xs : List Int}, xs.Pairwise (· < ·) → ∀ p ∈ xs.zip xs.tail, p.1 < p.2
  | [], _, p, hp => by simp at hp
  | [x], _, p, hp => by simp at hp
  | x :: y :: xs, h, p, hp => by
    rw [List.tail_cons, List.zip_cons_cons] at hp
    rcases List.mem_cons.mp hp with e | hp
    · subst e
      exact (List.pairwise_cons.mp h).1 y List.mem_cons_self
    · exact sorted_zip (xs := y :: xs) (List.pairwise_cons.mp h).2 p hp
/-- places, one behind another, below n -/
structure Lot (n : Int) (lot : List Int) : Prop where
  ne : lot ≠ []
  rng : ∀ i ∈ lot, 0 ≤ i ∧ i < n
  sort : lot.Pairwise (· < ·)
  short : lot.length ≤ 1000
/-- what the border p appends to row k -/
def adds (p : Int × Int) (k : Nat) : List Int := if p.1 = k then [p.2] else if p.2 = k then [p.1] else []
/-- what the borders append to row k -/
def rowOf (B : List (Int × Int)) (k : Nat) : List Int := B.flatMap fun p => adds p k
theorem rowOf_nil (k : Nat) : rowOf [] k = [] := rfl
theorem rowOf_cons (p : Int × Int) (B : List (Int × Int)) (k : Nat) : rowOf (p :: B) k = adds p k ++ rowOf B k := List.flatMap_cons
theorem adds_len (p : Int × Int) (k : Nat) : (adds p k).length ≤ 1 := by
  unfold adds
  split
  · exact Nat.le_refl _
  · split
    · exact Nat.le_refl _
    · exact Nat.zero_le _
theorem rowOf_len (B : List (Int × Int)) (k : Nat) : (rowOf B k).length ≤ B.length := by
  induction B with
  | nil => exact Nat.le_refl _
  | cons p B ih =>
    have := adds_len p k
    rw [rowOf_cons, List.length_append, List.length_cons]
    omega
theorem rowOf_snoc (B : List (Int × Int)) (p : Int × Int) (k : Nat) : rowOf (B ++ [p]) k = rowOf B k ++ adds p k := by
  unfold rowOf
  rw [List.flatMap_append, List.flatMap_cons, List.flatMap_nil, List.append_nil]
def rgI (n : Nat) : List Int := (List.range n).map fun i : Nat => (i : Int)
theorem rgI_rng (n : Nat) : rngN 0 n = (rgI n).map .int := by
  rw [rngN, rgI, List.map_map]
  refine List.map_congr_left fun i _ => ?_
  show PyData.int (0 + (i : Int)) = .int (i : Int)
  rw [Int.zero_add]
theorem mem_rgI {n : Nat} {i : Int} : i ∈ rgI n ↔ 0 ≤ i ∧ i < n := by
  unfold rgI
  rw [List.mem_map]
  constructor
  · rintro ⟨k, hk, rfl⟩
    have := List.mem_range.mp hk
    omega
  · rintro ⟨a, b⟩
    exact ⟨i.toNat, List.mem_range.mpr (by omega), by omega⟩
theorem rgI_sorted (n : Nat) : (rgI n).Pairwise (· < ·) := by
  unfold rgI
  refine List.pairwise_map.mpr ((List.pairwise_lt_range).imp fun {a b} h => ?_)
  omega
theorem rgI_len (n : Nat) : (rgI n).length = n := by simp [rgI]
/-- whether there is a border -/
def adj (B : List (Int × Int)) (k j : Int) : Bool := decide ((min j k, max j k) ∈ B)
def nearL (n : Nat) (B : List (Int × Int)) (k : Int) : List Int := (rgI n).filter (adj B k)
theorem mem_adds {p : Int × Int} {k : Nat} {j : Int} (hp : p.1 < p.2) : j ∈ adds p k ↔ (p = (min j k, max j k) ∧ j ≠ k) := by
  obtain ⟨a, b⟩ := p
  have hp : a < b := hp
  unfold adds
  constructor
  · intro h
    split at h
    · rename_i e
      have e : a = (k : Int) := e
      have : j = b := by simpa using h
      subst this e
      refine ⟨Prod.ext ?_ ?_, by omega⟩
      · show (k : Int) = min j k; omega
      · show j = max j k; omega
    · split at h
      · rename_i e
        have e : b = (k : Int) := e
        have : j = a := by simpa using h
        subst this e
        refine ⟨Prod.ext ?_ ?_, by omega⟩
        · show j = min j k; omega
        · show (k : Int) = max j k; omega
      · cases h
  · rintro ⟨e, hj⟩
    have e1 : a = min j k := congrArg Prod.fst e
    have e2 : b = max j k := congrArg Prod.snd e
    by_cases h : a = (k : Int)
    · rw [if_pos h]
      have : j = b := by omega
      simp [this]
    · have h' : b = (k : Int) := by omega
      rw [if_neg h, if_pos h']
      have : j = a := by omega
      simp [this]
theorem mem_rowOf {n : Int} {B : List (Int × Int)} (hB : BOk n B) {k : Nat} {j : Int} : j ∈ rowOf B k ↔ (min j k, max j k) ∈ B := by
  unfold rowOf
  rw [List.mem_flatMap]
  constructor
  · rintro ⟨p, hp, hj⟩
    have := ((mem_adds (hB p hp).2.1).mp hj).1
    rw [← this]
    exact hp
  · intro h
    have hb := hB _ h
    refine ⟨_, h, (mem_adds hb.2.1).mpr ⟨rfl, fun e => ?_⟩⟩
    have h2 : min j k < max j k := hb.2.1
    omega
theorem lexB_irr (p : Int × Int) : SrtO.lexB p p = false := by
  rw [SrtO.lexB_no]; omega
theorem bst_nodup {B : List (Int × Int)} (h : BSt B) : B.Nodup := h.imp fun {a b} hab e => by
  subst e
  rw [lexB_irr] at hab
  cases hab
theorem adds_nodup (p : Int × Int) (k : Nat) : (adds p k).Nodup := by
  unfold adds
  split
  · simp
  · split <;> simp
theorem rowOf_nodup {n : Int} : ∀ {B : List (Int × Int)}, BOk n B → B.Nodup → ∀ k : Nat, (rowOf B k).Nodup
  | [], _, _, k => by rw [rowOf_nil]; exact List.nodup_nil
  | p :: B, h, nd, k => by
    rw [rowOf_cons]
    refine List.nodup_append.mpr ⟨adds_nodup p k, rowOf_nodup (fun q hq => h q (List.mem_cons_of_mem _ hq)) (List.nodup_cons.mp nd).2 k, fun a ha b hb e => ?_⟩
    subst e
    have h1 := ((mem_adds (h p List.mem_cons_self).2.1).mp ha).1
    have h2 := (mem_rowOf (fun q hq => h q (List.mem_cons_of_mem _ hq))).mp hb
    rw [← h1] at h2
    exact (List.nodup_cons.mp nd).1 h2
theorem lt_le_sorted {xs : List Int} (h : xs.Pairwise (· < ·)) : xs.Pairwise (· ≤ ·) := h.imp fun {a b} z => Int.le_of_lt z
theorem lt_nodup {xs : List Int} (h : xs.Pairwise (· < ·)) : xs.Nodup := h.imp fun {a b} z e => by omega
theorem nearL_sorted (n : Nat) (B : List (Int × Int)) (k : Int) : (nearL n B k).Pairwise (· < ·) := (rgI_sorted n).filter _
/-- two lists without repeats of the same items, one sorted -/
theorem sortI_eq {xs ys : List Int} (hx : xs.Nodup) (hy : ys.Pairwise (· < ·)) (h : ∀ a, a ∈ xs ↔ a ∈ ys) : sortI xs = ys :=
  sorted_uniq ((sortI_perm xs).trans ((List.perm_ext_iff_of_nodup hx (lt_nodup hy)).mpr h)) (sortI_sorted xs) (lt_le_sorted hy)
theorem row_near {folk : List Int} {B : List (Int × Int)} (h : LOk folk B) (k : Nat) : sortI (rowOf B k) = nearL folk.length B k := by
  refine sortI_eq (rowOf_nodup h.bord (bst_nodup h.sort) k) (nearL_sorted _ _ _) fun a => ?_
  rw [mem_rowOf h.bord, nearL, List.mem_filter, mem_rgI, adj, decide_eq_true_eq]
  constructor
  · intro hp
    have hb := h.bord _ hp
    have h1 : 0 ≤ min a k := hb.1
    have h2 : min a k < max a k := hb.2.1
    have h3 : max a k < folk.length := hb.2.2
    exact ⟨⟨by omega, by omega⟩, hp⟩
  · exact fun z => z.2
theorem nodup_le : ∀ {xs ys : List Int}, xs.Nodup → (∀ x ∈ xs, x ∈ ys) → xs.length ≤ ys.length
  | [], _, _, _ => Nat.zero_le _
  | x :: xs, ys, nd, h => by
    have hx := h x List.mem_cons_self
    have := nodup_le (xs := xs) (ys := ys.erase x) (List.nodup_cons.mp nd).2 fun y hy => by
      have hne : y ≠ x := fun e => (List.nodup_cons.mp nd).1 (e ▸ hy)
      exact (List.mem_erase_of_ne hne).mpr (h y (List.mem_cons_of_mem _ hy))
    rw [List.length_erase_of_mem hx] at this
    have : 0 < ys.length := List.length_pos_of_mem hx
    rw [List.length_cons]
    omega
def stepR (lot : List Int) (F : List Int) (x : Int) : List Int := if x ∈ lot ∧ x ∉ F then F ++ [x] else F
def scan (lot : List Int) (F : List Int) (row : List Int) : List Int := row.foldl (stepR lot) F
theorem scan_mem {lot : List Int} : ∀ {row F : List Int} {x : Int}, x ∈ scan lot F row ↔ x ∈ F ∨ (x ∈ row ∧ x ∈ lot)
  | [], F, x => by simp [scan]
  | y :: row, F, x => by
    show x ∈ scan lot (stepR lot F y) row ↔ _
    rw [scan_mem (row := row)]
    unfold stepR
    by_cases h : y ∈ lot ∧ y ∉ F
    · rw [if_pos h]
      simp only [List.mem_append, List.mem_cons, List.not_mem_nil, or_false]
      constructor
      · rintro ((a | a) | a)
        · exact .inl a
        · subst a; exact .inr ⟨.inl rfl, h.1⟩
        · exact .inr ⟨.inr a.1, a.2⟩
      · rintro (a | ⟨a | a, b⟩)
        · exact .inl (.inl a)
        · exact .inl (.inr a)
        · exact .inr ⟨a, b⟩
    · rw [if_neg h]
      simp only [List.mem_cons]
      constructor
      · rintro (a | a)
        · exact .inl a
        · exact .inr ⟨.inr a.1, a.2⟩
      · rintro (a | ⟨a | a, b⟩)
        · exact .inl a
        · subst a
          exact .inl (Classical.byContradiction fun z => h ⟨b, z⟩)
        · exact .inr ⟨a, b⟩
theorem scan_nodup {lot : List Int} : ∀ {row F : List Int}, F.Nodup → (scan lot F row).Nodup
  | [], F, h => h
  | y :: row, F, h => by
    show (scan lot (stepR lot F y) row).Nodup
    refine scan_nodup (row := row) ?_
    unfold stepR
    by_cases z : y ∈ lot ∧ y ∉ F
    · rw [if_pos z]
      exact List.nodup_append.mpr ⟨h, by simp, fun a ha b hb e => z.2 (by rw [← List.mem_singleton.mp hb, ← e]; exact ha)⟩
    · rw [if_neg z]; exact h
/-- what can be come to from s within lot -/
structure Clo (B : List (Int × Int)) (lot : List Int) (s : Int) (F : List Int) : Prop where
  nd : F.Nodup
  start : s ∈ F
  sub : ∀ x ∈ F, x ∈ lot
  shut : ∀ a ∈ F, ∀ b ∈ lot, adj B a b = true → b ∈ F
  least : ∀ S : Int → Prop, S s → (∀ a b, S a → b ∈ lot → adj B a b = true → S b) → ∀ x ∈ F, S x
theorem Clo.mem_iff {B : List (Int × Int)} {lot : List Int} {s : Int} {F G : List Int} (f : Clo B lot s F) (g : Clo B lot s G) (x : Int) : x ∈ F ↔ x ∈ G :=
  ⟨f.least (· ∈ G) g.start (fun a b ha hb => g.shut a ha b hb) x, g.least (· ∈ F) f.start (fun a b ha hb => f.shut a ha b hb) x⟩
theorem Clo.sort_eq {B : List (Int × Int)} {lot : List Int} {s : Int} {F G : List Int} (f : Clo B lot s F) (g : Clo B lot s G) : sortI F = sortI G :=
  sorted_uniq ((sortI_perm F).trans (((List.perm_ext_iff_of_nodup f.nd g.nd).mpr fun x => f.mem_iff g x).trans (sortI_perm G).symm)) (sortI_sorted F) (sortI_sorted G)
/-- on the way -/
structure Way (B : List (Int × Int)) (lot : List Int) (s : Int) (F : List Int) (t : Nat) : Prop where
  nd : F.Nodup
  start : s ∈ F
  sub : ∀ x ∈ F, x ∈ lot
  le : t ≤ F.length
  shut : ∀ i (h : i < t) (h' : i < F.length), ∀ b ∈ lot, adj B F[i] b = true → b ∈ F
  least : ∀ S : Int → Prop, S s → (∀ a b, S a → b ∈ lot → adj B a b = true → S b) → ∀ x ∈ F, S x
theorem Way.first {B : List (Int × Int)} {lot : List Int} {s : Int} (h : s ∈ lot) : Way B lot s [s] 0 :=
  ⟨by simp, by simp, fun x hx => by rw [List.mem_singleton.mp hx]; exact h, by simp, fun i h => by omega, fun S h0 _ x hx => by rw [List.mem_singleton.mp hx]; exact h0⟩
theorem Way.done {B : List (Int × Int)} {lot : List Int} {s : Int} {F : List Int} (w : Way B lot s F F.length) : Clo B lot s F :=
  ⟨w.nd, w.start, w.sub, fun a ha b hb hab => by
    obtain ⟨i, hi, e⟩ := List.getElem_of_mem ha
    exact w.shut i hi hi b hb (by rw [e]; exact hab), w.least⟩
theorem Way.turn {B : List (Int × Int)} {lot : List Int} {s : Int} {F G : List Int} {t : Nat} (w : Way B lot s F t) (ht : t < F.length) (pre : ∃ M, G = F ++ M) (nd : G.Nodup) (hG : ∀ x, x ∈ G ↔ x ∈ F ∨ (adj B F[t] x = true ∧ x ∈ lot)) : Way B lot s G (t + 1) := by
  obtain ⟨M, rfl⟩ := pre
  refine ⟨nd, (hG s).mpr (.inl w.start), fun x hx => ?_, by rw [List.length_append]; omega, fun i hi hi' b hb hab => ?_, fun S h0 hs x hx => ?_⟩
  · rcases (hG x).mp hx with a | a
    · exact w.sub x a
    · exact a.2
  · have hiF : i < F.length := by omega
    rw [List.getElem_append_left hiF] at hab
    refine (hG b).mpr ?_
    by_cases e : i = t
    · subst e; exact .inr ⟨hab, hb⟩
    · exact .inl (w.shut i (by omega) hiF b hb hab)
  · rcases (hG x).mp hx with a | a
    · exact w.least S h0 hs x a
    · exact hs _ x (w.least S h0 hs _ (List.getElem_mem ht)) a.2 a.1
theorem scan_pre {lot : List Int} : ∀ (row F : List Int), ∃ M, scan lot F row = F ++ M
  | [], F => ⟨[], by simp [scan]⟩
  | y :: row, F => by
    obtain ⟨M, e⟩ := scan_pre row (stepR lot F y)
    show ∃ M, scan lot (stepR lot F y) row = F ++ M
    rw [e]
    unfold stepR
    split
    · exact ⟨y :: M, by simp⟩
    · exact ⟨M, rfl⟩
/-- what is come to from s within lot, sorted -/
noncomputable def compOf (B : List (Int × Int)) (lot : List Int) (s : Int) : List Int := open Classical in if h : ∃ F, Clo B lot s F then sortI h.choose else []
theorem compOf_eq {B : List (Int × Int)} {lot : List Int} {s : Int} {F : List Int} (h : Clo B lot s F) : sortI F = compOf B lot s := by
  have e : ∃ F, Clo B lot s F := ⟨F, h⟩
  unfold compOf
  rw [dif_pos e]
  exact h.sort_eq e.choose_spec
theorem mem_sortI {xs : List Int} {a : Int} : a ∈ sortI xs ↔ a ∈ xs := (sortI_perm xs).mem_iff
theorem adj_symm {B : List (Int × Int)} (a b : Int) : adj B a b = adj B b a := by
  unfold adj
  rw [show min b a = min a b by omega, show max b a = max a b by omega]
/-- the pieces, n of them at most -/
noncomputable def pcs (B : List (Int × Int)) : Nat → List Int → List (List Int)
  | 0, _ => []
  | _ + 1, [] => []
  | n + 1, s :: l => compOf B (s :: l) s :: pcs B n ((s :: l).filter fun x => !decide (x ∈ compOf B (s :: l) s))
/-- no border leads out of left within lot -/
def Sep (B : List (Int × Int)) (lot left : List Int) : Prop := ∀ a ∈ left, ∀ b ∈ lot, adj B a b = true → b ∈ left
theorem Sep.self {B : List (Int × Int)} {lot : List Int} : Sep B lot lot := fun _ _ b hb _ => hb
theorem Sep.less {B : List (Int × Int)} {lot left F : List Int} {s : Int} (h : Sep B lot left) (c : Clo B left s F) : Sep B lot (left.filter fun x => !decide (x ∈ F)) := by
  intro a ha b hb hab
  simp only [List.mem_filter, Bool.not_eq_true', decide_eq_false_iff_not] at ha ⊢
  refine ⟨h a ha.1 b hb hab, fun hF => ha.2 (c.shut b hF a ha.1 (by rw [adj_symm]; exact hab))⟩
/-- within lot is within left -/
theorem Sep.clo {B : List (Int × Int)} {lot left F : List Int} {s : Int} (h : Sep B lot left) (hl : ∀ x ∈ left, x ∈ lot) (hs : s ∈ left) (c : Clo B lot s F) : Clo B left s F :=
  ⟨c.nd, c.start, c.least (· ∈ left) hs (fun a b ha hb hab => h a ha b hb hab), fun a ha b hb => c.shut a ha b (hl b hb), fun S h0 hS => fun x hx => (c.least (fun y => S y ∧ y ∈ left) ⟨h0, hs⟩ (fun a b ha hb hab => ⟨hS a b ha.1 (h a ha.2 b hb hab) hab, h a ha.2 b hb hab⟩) x hx).1⟩
theorem filter_less {s : Int} {l F : List Int} (h : s ∈ F) : ((s :: l).filter fun x => !decide (x ∈ F)).length ≤ l.length := by
  rw [List.filter_cons_of_neg (by simp [h])]
  exact List.length_filter_le _ _
/-- what is come to from s -/
theorem clo_ex {B : List (Int × Int)} {lot : List Int} {s : Int} (hs : s ∈ lot) : ∃ F, Clo B lot s F := by
  have go : ∀ (k : Nat) (F : List Int) (t : Nat), Way B lot s F t → lot.length - t ≤ k → ∃ F, Clo B lot s F := by
    intro k
    induction k with
    | zero =>
      intro F t w h
      have l := nodup_le w.nd w.sub
      have le := w.le
      have e : t = F.length := by omega
      subst e
      exact ⟨F, w.done⟩
    | succ k ih =>
      intro F t w h
      by_cases ht : t < F.length
      · refine ih (scan lot F (lot.filter fun x => adj B F[t] x)) (t + 1) (w.turn ht (scan_pre _ F) (scan_nodup w.nd) fun x => ?_) (by omega)
        rw [scan_mem, List.mem_filter]
        exact ⟨fun z => z.imp id fun z => ⟨z.1.2, z.2⟩, fun z => z.imp id fun z => ⟨⟨z.2, z.1⟩, z.2⟩⟩
      · have le := w.le
        have e : t = F.length := by omega
        subst e
        exact ⟨F, w.done⟩
  exact go _ _ _ (Way.first hs) (Nat.le_refl _)
/-- one piece: all of it hangs together -/
theorem pcs_one {B : List (Int × Int)} {s : Int} {l : List Int} (nd : (s :: l).Nodup) : (pcs B (s :: l).length (s :: l)).length = 1 ↔ (compOf B (s :: l) s).length = (s :: l).length := by
  obtain ⟨F, cF⟩ := clo_ex (B := B) (lot := s :: l) (s := s) List.mem_cons_self
  have eC := compOf_eq cF
  have lC : (compOf B (s :: l) s).length = F.length := by rw [← eC]; exact (sortI_perm F).length_eq
  have mC : ∀ x, x ∈ compOf B (s :: l) s ↔ x ∈ F := fun x => by rw [← eC]; exact mem_sortI
  have le1 := nodup_le cF.nd cF.sub
  have all_iff : ((s :: l).filter fun x => !decide (x ∈ compOf B (s :: l) s)) = [] ↔ F.length = (s :: l).length := by
    rw [List.filter_eq_nil_iff]
    constructor
    · intro q
      have := nodup_le (xs := s :: l) (ys := F) nd fun x hx => by
        have := q x hx
        simp only [Bool.not_eq_true', decide_eq_false_iff_not] at this
        exact (mC x).mp (Classical.not_not.mp this)
      omega
    · intro q x hx
      simp only [Bool.not_eq_true', decide_eq_false_iff_not, Classical.not_not]
      refine (mC x).mpr (Classical.byContradiction fun z => ?_)
      have := nodup_le (xs := x :: F) (ys := s :: l) (List.nodup_cons.mpr ⟨z, cF.nd⟩) fun y hy => by
        rcases List.mem_cons.mp hy with e | e
        · rw [e]; exact hx
        · exact cF.sub y e
      simp only [List.length_cons] at this q
      omega
  have sC : s ∈ compOf B (s :: l) s := (mC s).mpr cF.start
  have fl := filter_less (l := l) sC
  show (compOf B (s :: l) s :: pcs B l.length ((s :: l).filter fun x => !decide (x ∈ compOf B (s :: l) s))).length = 1 ↔ _
  rw [List.length_cons, lC, ← all_iff]
  generalize hw : ((s :: l).filter fun x => !decide (x ∈ compOf B (s :: l) s)) = w at fl
  cases w with
  | nil =>
    have : pcs B l.length [] = [] := by cases l.length <;> rfl
    rw [this]
    simp
  | cons a b =>
    obtain ⟨k, hk⟩ : ∃ k, l.length = k + 1 := ⟨l.length - 1, by simp only [List.length_cons] at fl; omega⟩
    rw [hk]
    simp [pcs]
theorem cons_erase : ∀ (l : List Int) (k : Nat) (hk : k < l.length), (l[k] :: l.eraseIdx k).Perm l
  | a :: l, 0, _ => List.Perm.refl _
  | a :: l, k + 1, hk => by
    have hk' : k < l.length := by simpa using hk
    have ih := cons_erase l k hk'
    show (l[k]'hk' :: a :: l.eraseIdx k).Perm (a :: l)
    exact (List.Perm.swap _ _ _).trans (ih.cons a)
theorem erase_perm (F ns : List Int) (k : Nat) (hk : k < ns.length) : ((F ++ [ns[k]]) ++ ns.eraseIdx k).Perm (F ++ ns) := by
  rw [List.append_assoc]
  refine List.Perm.append_left F ?_
  have h : (ns[k] :: ns.eraseIdx k).Perm ns := cons_erase ns k hk
  exact h
end Q

namespace Q
open PySem PySem.Spec PyProof.Rows L2 DL
/-! ### the text -/
def top (i : Nat) : Stmt := PySem.Challenge.pw_wardsdrawn_k05_plans_of_rows.main.body.getD i (.Pass ⟨0, 0, 0, 0⟩)
structure Nm where
  a__law_spring : Addr
  d__law_spring : FuncData
  a__law_drop : Addr
  d__law_drop : FuncData
  a__law_order : Addr
  d__law_order : FuncData
  a__law_land : Addr
  d__law_land : FuncData
  a__law_near : Addr
  d__law_near : FuncData
  a__law_reached : Addr
  d__law_reached : FuncData
  a__law_pieces : Addr
  d__law_pieces : FuncData
  a__law_plan : Addr
  d__law_plan : FuncData
  a__law_kinds : Addr
  d__law_kinds : FuncData
  a__law_alike : Addr
  d__law_alike : FuncData
  a_is_integer : Addr
  d_is_integer : FuncData
  a_is_between : Addr
  d_is_between : FuncData
  a_folk_fault : Addr
  d_folk_fault : FuncData
  a_is_tuple_of : Addr
  d_is_tuple_of : FuncData
  a_is_border : Addr
  d_is_border : FuncData
  a_land_fault : Addr
  d_land_fault : FuncData
  a_check_land : Addr
  d_check_land : FuncData
  a_as_plan : Addr
  d_as_plan : FuncData
  a_size_of : Addr
  d_size_of : FuncData
  a_reached : Addr
  d_reached : FuncData
  a_hangs_of : Addr
  d_hangs_of : FuncData
  a_rows_of : Addr
  d_rows_of : FuncData
  a_plan_of : Addr
  d_plan_of : FuncData
  a__law_told : Addr
  d__law_told : FuncData
  a__law_right : Addr
  d__law_right : FuncData
  a_law : Addr
  d_law : FuncData
  u_MOST_FOLK : Value
  u_MOST_PLACES : Value
  o_Refused : Addr
  o_WardError : Addr
structure Fx (K : PySem.W.Frag) (mg : Str → Option Value) (n : Nm) : Prop where
  F__law_spring : FnP K "_law_spring" "_law_spring" (top 23) n.a__law_spring n.d__law_spring
  g__law_spring : mg "_law_spring" = some (.ref n.a__law_spring)
  F__law_drop : FnP K "_law_drop" "_law_drop" (top 24) n.a__law_drop n.d__law_drop
  g__law_drop : mg "_law_drop" = some (.ref n.a__law_drop)
  F__law_order : FnP K "_law_order" "_law_order" (top 28) n.a__law_order n.d__law_order
  g__law_order : mg "_law_order" = some (.ref n.a__law_order)
  F__law_land : FnP K "_law_land" "_law_land" (top 27) n.a__law_land n.d__law_land
  g__law_land : mg "_law_land" = some (.ref n.a__law_land)
  F__law_near : FnP K "_law_near" "_law_near" (top 29) n.a__law_near n.d__law_near
  g__law_near : mg "_law_near" = some (.ref n.a__law_near)
  F__law_reached : FnP K "_law_reached" "_law_reached" (top 30) n.a__law_reached n.d__law_reached
  g__law_reached : mg "_law_reached" = some (.ref n.a__law_reached)
  F__law_pieces : FnP K "_law_pieces" "_law_pieces" (top 31) n.a__law_pieces n.d__law_pieces
  g__law_pieces : mg "_law_pieces" = some (.ref n.a__law_pieces)
  F__law_plan : FnP K "_law_plan" "_law_plan" (top 32) n.a__law_plan n.d__law_plan
  g__law_plan : mg "_law_plan" = some (.ref n.a__law_plan)
  F__law_kinds : FnP K "_law_kinds" "_law_kinds" (top 25) n.a__law_kinds n.d__law_kinds
  g__law_kinds : mg "_law_kinds" = some (.ref n.a__law_kinds)
  F__law_alike : FnP K "_law_alike" "_law_alike" (top 26) n.a__law_alike n.d__law_alike
  g__law_alike : mg "_law_alike" = some (.ref n.a__law_alike)
  F_is_integer : FnP K "is_integer" "is_integer" (top 6) n.a_is_integer n.d_is_integer
  g_is_integer : mg "is_integer" = some (.ref n.a_is_integer)
  F_is_between : FnP K "is_between" "is_between" (top 7) n.a_is_between n.d_is_between
  g_is_between : mg "is_between" = some (.ref n.a_is_between)
  F_folk_fault : FnP K "folk_fault" "folk_fault" (top 14) n.a_folk_fault n.d_folk_fault
  g_folk_fault : mg "folk_fault" = some (.ref n.a_folk_fault)
  F_is_tuple_of : FnP K "is_tuple_of" "is_tuple_of" (top 8) n.a_is_tuple_of n.d_is_tuple_of
  g_is_tuple_of : mg "is_tuple_of" = some (.ref n.a_is_tuple_of)
  F_is_border : FnP K "is_border" "is_border" (top 13) n.a_is_border n.d_is_border
  g_is_border : mg "is_border" = some (.ref n.a_is_border)
  F_land_fault : FnP K "land_fault" "land_fault" (top 15) n.a_land_fault n.d_land_fault
  g_land_fault : mg "land_fault" = some (.ref n.a_land_fault)
  F_check_land : FnP K "check_land" "check_land" (top 16) n.a_check_land n.d_check_land
  g_check_land : mg "check_land" = some (.ref n.a_check_land)
  F_as_plan : FnP K "as_plan" "as_plan" (top 20) n.a_as_plan n.d_as_plan
  g_as_plan : mg "as_plan" = some (.ref n.a_as_plan)
  F_size_of : FnP K "size_of" "size_of" (top 12) n.a_size_of n.d_size_of
  g_size_of : mg "size_of" = some (.ref n.a_size_of)
  F_reached : FnP K "reached" "reached" (top 18) n.a_reached n.d_reached
  g_reached : mg "reached" = some (.ref n.a_reached)
  F_hangs_of : FnP K "hangs_of" "hangs_of" (top 19) n.a_hangs_of n.d_hangs_of
  g_hangs_of : mg "hangs_of" = some (.ref n.a_hangs_of)
  F_rows_of : FnP K "rows_of" "rows_of" (top 17) n.a_rows_of n.d_rows_of
  g_rows_of : mg "rows_of" = some (.ref n.a_rows_of)
  F_plan_of : FnP K "plan_of" "plan_of" (top 21) n.a_plan_of n.d_plan_of
  g_plan_of : mg "plan_of" = some (.ref n.a_plan_of)
  F__law_told : FnP K "_law_told" "_law_told" (top 34) n.a__law_told n.d__law_told
  g__law_told : mg "_law_told" = some (.ref n.a__law_told)
  F__law_right : FnP K "_law_right" "_law_right" (top 35) n.a__law_right n.d__law_right
  g__law_right : mg "_law_right" = some (.ref n.a__law_right)
  F_law : FnP K "law" "law" (top 36) n.a_law n.d_law
  g_law : mg "law" = some (.ref n.a_law)
  b_all : mg "all" = none
  b_bool : mg "bool" = none
  b_enumerate : mg "enumerate" = none
  b_int : mg "int" = none
  b_isinstance : mg "isinstance" = none
  b_len : mg "len" = none
  b_list : mg "list" = none
  b_max : mg "max" = none
  b_min : mg "min" = none
  b_range : mg "range" = none
  b_set : mg "set" = none
  b_sorted : mg "sorted" = none
  b_str : mg "str" = none
  b_tuple : mg "tuple" = none
  c_MOST_FOLK : mg "MOST_FOLK" = some n.u_MOST_FOLK
  r_MOST_FOLK : RelV (.int 1000000) n.u_MOST_FOLK
  c_MOST_PLACES : mg "MOST_PLACES" = some n.u_MOST_PLACES
  r_MOST_PLACES : RelV (.int 12) n.u_MOST_PLACES
  k_Refused : mg "Refused" = some (.ref n.o_Refused)
  k_WardError : mg "WardError" = some (.ref n.o_WardError)
  x_Refused : ExcC K mg "Refused" n.o_Refused
  m_Refused_Refused : PySem.W.exmOne K (.ref n.o_Refused) (.ref n.o_Refused) = some true
  m_Refused_WardError : PySem.W.exmOne K (.ref n.o_Refused) (.ref n.o_WardError) = some true
section
variable {P : Program} {w : World} {K : PySem.W.Frag} {mg : Str → Option Value} {base : Heap} {n : Nm}
/-! _law_spring -/
theorem sc__law_spring : FnScope ["script", "great", "cell", "mixed"] ["script"] (defScope (top 23)) := ⟨rfl, rfl, rfl, by decide +kernel, rfl, by decide +kernel, by decide +kernel⟩
theorem b__law_spring (Z : Fx K mg n) : Binds K n.d__law_spring ["script"] [] := Z.F__law_spring.bindsN fun _ _ _ _ _ _ us hl => match us, hl with | [_], _ => rfl
noncomputable def f__law_spring_c1 : TF := (cmpT (upO geI) (d2P (vP 2) (binP powI (kP (.int 10)) (kP (.int 18)))))
noncomputable def f__law_spring_e1 : EF := (pE (binP subI (vP 2) (binP powI (kP (.int 10)) (kP (.int 18)))))
noncomputable def f__law_spring_l1 : SF := (asgF (pE (binP modI (callP intD (consP (binP addI (binP addI (binP mulI (vP 3) (kP (.int 982451653))) (binP mulI (vP 2) (kP (.int 49979687)))) (kP (.int 32452843))) nilP)) (kP (.int 2305843009213693951)))) (gNameD 3))
noncomputable def f__law_spring : SF := (seqF (asgF (lcF (seqD (vE 0)) (gNameD 2) f__law_spring_c1 f__law_spring_e1 [2]) (gNameD 1))
    (seqF (asgF (pE (binP addI (kP (.int 15485863)) (binP mulI (kP (.int 2)) (callP lenD (consP (vP 0) nilP))))) (gNameD 3))
    (seqF (forS (seqD (vE 0)) (gNameD 2) f__law_spring_l1)
    (retS (lstOE (consO (tkE 1) (consO (tkE 3) (consO (pE (kP (.int 0))) nilO))))))))
noncomputable def D__law_spring : List D → Res (D × Nat) := runP 4 f__law_spring
theorem ok__law_spring (Z : Fx K mg n) : FnOk P w K mg base CX0 1 n.a__law_spring n.d__law_spring ["script"] (SpD K mg 1 D__law_spring) :=
  fn_pure Z.F__law_spring sc__law_spring (by decide) fun cdv A outer s H E hr =>
    (dss_cons (ds_setLc 1 (own := [("cell", 2)]) rfl sc__law_spring.nd rfl (sw_true rfl rfl rfl (by decide +kernel)) (di_seq (n_vE 0)) (blkOk_by (by kernel_rfl)) (fun _ _ _ _ _ => (dg_name 2 sc__law_spring.nd)) (fun _ _ _ _ _ => dts_one (n_cmpT (n_upO opp_ge) (n_d2P (n_var 2) (n_bin opp_pow n_int n_int)))) (fun _ _ _ _ _ => (n_pE (n_bin opp_sub (n_var 2) (n_bin opp_pow n_int n_int)))))
    (dss_cons (ds_set 3 sc__law_spring.nd (n_pE (n_bin opp_add n_int (n_bin opp_mul n_int (n_callPB cp_len Z.b_len bt_len (n_consP (n_var 0) n_nilP))))))
    (dss_cons (n_for PassesOwn.never rfl (di_seq (n_vE 0)) (dg_name 2 sc__law_spring.nd) (dss_one (ds_set 3 sc__law_spring.nd (n_pE (n_bin opp_mod (n_callPT cp_int Z.b_int bt_int (n_consP (n_bin opp_add (n_bin opp_add (n_bin opp_mul (n_var 3) n_int) (n_bin opp_mul (n_var 2) n_int)) n_int) n_nilP)) n_int)))))
    (dss_one (n_ret (n_lstO (n_consO (n_tk 1) (n_consO (n_tk 3) (n_consO (n_pE n_int) n_nilO)))))))))
/-! _law_drop -/
theorem sc__law_drop : FnScope ["spring", "many", "great", "found"] ["spring", "many"] (defScope (top 24)) := ⟨rfl, rfl, rfl, by decide +kernel, rfl, by decide +kernel, by decide +kernel⟩
theorem b__law_drop (Z : Fx K mg n) : Binds K n.d__law_drop ["spring", "many"] [] := Z.F__law_drop.bindsN fun _ _ _ _ _ _ us hl => match us, hl with | [_, _], _ => rfl
noncomputable def f__law_drop_t1 : TF := (andR (cmpT (upO neD) (d2P (vP 2) (kN (.list [], 1)))) (cmpT (upO eqD) (d2P (ixP (vP 2) (kP (.int 0))) (kP (.int 0)))))
noncomputable def f__law_drop_w1 : SF := (expS (popF 2 (pE (kP (.int 0)))))
noncomputable def f2__law_drop : SF := (whileF f__law_drop_t1 f__law_drop_w1 fuel)
noncomputable def f3__law_drop : SF := (ifS (cmpT (upO neD) (d2P (vP 2) (kN (.list [], 1)))) (seqF (asgF (pE (binP modI (callP intD (consP (ixP (vP 2) (kP (.int 0))) nilP)) (vP 1))) (gNameD 3))
    (seqF (asgF (pE (binP fdivI (ixP (vP 2) (kP (.int 0))) (vP 1))) (gSetD 2 (kP (.int 0))))
    (retS (tkE 3)))) nilS)
noncomputable def f4__law_drop : PF := (binP addI (ixP (vP 0) (kP (.int 2))) (kP (.int 1)))
noncomputable def f5__law_drop : PF := (binP modI (callP intD (consP (binP addI (binP mulI (ixP (vP 0) (kP (.int 1))) (kP (.int 6364136223846793005))) (binP mulI (ixP (vP 0) (kP (.int 2))) (kP (.int 1442695040888963407)))) nilP)) (kP (.int 2305843009213693951)))
noncomputable def f6__law_drop : PF := (binP modI (binP fdivI (binP modI (callP intD (consP (binP mulI (ixP (vP 0) (kP (.int 1))) (ixP (vP 0) (kP (.int 1)))) nilP)) (kP (.int 2305843009213693921))) (kP (.int 1048576))) (vP 1))
noncomputable def D__law_drop : List D → Res ((D × Nat) × D) := aliasF f2__law_drop f3__law_drop f4__law_drop f5__law_drop f6__law_drop
theorem ok__law_drop (Z : Fx K mg n) : FnOk P w K mg base CX0 1 n.a__law_drop n.d__law_drop ["spring", "many"] (SpI K 1 2 D__law_drop) :=
  fn_alias Z.F__law_drop sc__law_drop rfl fun cdv A outer s H E hr => ⟨dal sc__law_drop.nd, (n_while PassesOwn.never (dt_pw (dw_and (n_cmpT (n_upO (opp_ne hr.units)) (n_d2N (n_var 2) n_nilL)) (dw_and1 (n_cmpT (n_upO (opp_eq hr.units)) (n_d2P (n_ix (n_var 2) n_int) n_int))))) (dss_one (n_exp (de_pop 2 (n_pE n_int))))), (ds_if (n_cmpT (n_upO (opp_ne hr.units)) (n_d2N (n_var 2) n_nilL)) (dss_cons (ds_set 3 sc__law_drop.nd (n_pE (n_bin opp_mod (n_callPT cp_int Z.b_int bt_int (n_consP (n_ix (n_var 2) n_int) n_nilP)) (n_var 1))))
    (dss_cons (ds_asg (n_pE (n_bin opp_fdiv (n_ix (n_var 2) n_int) (n_var 1))) (dg_sub 2 n_int))
    (dss_one (n_ret (n_tk 3))))) n_nilS), dsetI 2 (n_bin opp_add (n_ix (n_var 0) n_int) n_int), dsetI 1 (n_bin opp_mod (n_callPT cp_int Z.b_int bt_int (n_consP (n_bin opp_add (n_bin opp_mul (n_ix (n_var 0) n_int) n_int) (n_bin opp_mul (n_ix (n_var 0) n_int) n_int)) n_nilP)) n_int), (n_bin opp_mod (n_bin opp_fdiv (n_bin opp_mod (n_callPT cp_int Z.b_int bt_int (n_consP (n_bin opp_mul (n_ix (n_var 0) n_int) (n_ix (n_var 0) n_int)) n_nilP)) n_int) n_int) (n_var 1))⟩
/-! _law_order -/
theorem sc__law_order : FnScope ["spring", "many", "left", "found", "turn"] ["spring", "many"] (defScope (top 28)) := ⟨rfl, rfl, rfl, by decide +kernel, rfl, by decide +kernel, by decide +kernel⟩
theorem b__law_order (Z : Fx K mg n) : Binds K n.d__law_order ["spring", "many"] [] := Z.F__law_order.bindsN fun _ _ _ _ _ _ us hl => match us, hl with | [_, _], _ => rfl
noncomputable def f__law_order_l1 : SF := (expS (appendF 3 (popF 2 (callIF 0 1 2 D__law_drop (consA (pE (callP lenD (consP (vP 2) nilP))) nilA)))))
noncomputable def f__law_order : SF := (seqF (parF 2 3 (consO (lrgE (rg1 (p1 (vP 1)))) (consO (lstE nilA) nilO)))
    (seqF (forS (r1I (pO (consP (vP 1) nilP))) (gNameD 4) f__law_order_l1)
    (retS (callE tupleD (pO (consP (vP 3) nilP))))))
noncomputable def D__law_order : List D → Res ((D × Nat) × D) := runI 5 2 f__law_order
theorem ok__law_order (Z : Fx K mg n) : FnOk P w K mg base CX0 2 n.a__law_order n.d__law_order ["spring", "many"] (SpI K 1 2 D__law_order) :=
  fn_io Z.F__law_order sc__law_order (by decide) fun cdv A outer s H E hr =>
    (dss_cons (ds_par 2 3 rfl sc__law_order.nd (n_consO (n_lrg rfl Z.b_list (n_rg1 Z.b_range (n_p1 (n_var 1)))) (n_consO (n_lst n_nilA) n_nilO)) (by rfl))
    (dss_cons (n_for PassesOwn.never rfl (n_r1I Z.b_range (n_pC (n_consP (n_var 1) n_nilP))) (dg_name 4 sc__law_order.nd) (dss_one (n_exp (de_append 3 (de_pop 2 (de_callI 0 (ok__law_drop Z) (hr.mono (by decide)) Z.g__law_drop Z.F__law_drop.kp (b__law_drop Z) pass0 (n_consA (n_pE (n_callPB cp_len Z.b_len bt_len (n_consP (n_var 2) n_nilP))) n_nilA)))))))
    (dss_one (n_ret (n_callT cd_tuple Z.b_tuple bt_tuple (n_pC (n_consP (n_var 3) n_nilP)))))))
/-! _law_land -/
theorem sc__law_land : FnScope ["spring", "places", "many", "shape", "bound", "folk", "borders", "rarely", "k", "j", "i", "order"] ["spring", "places"] (defScope (top 27)) := ⟨rfl, rfl, rfl, by decide +kernel, rfl, by decide +kernel, by decide +kernel⟩
theorem b__law_land (Z : Fx K mg n) : Binds K n.d__law_land ["spring", "places"] [] := Z.F__law_land.bindsN fun _ _ _ _ _ _ us hl => match us, hl with | [_, _], _ => rfl
noncomputable def f__law_land_e1 : EF := (callIF 0 1 2 D__law_drop (consA (vE 4) nilA))
noncomputable def f__law_land_l1 : SF := (ifS (cmpT (upO ltA) (d2P (vP 3) (kP (.int 2)))) (putTF 6 (pE (kP (.bool true))) (tupK (pO (consP (binP subI (vP 8) (kP (.int 1))) (consP (vP 8) nilP))))) (ifS (cmpT (upO eqD) (d2P (vP 3) (kP (.int 2)))) (putTF 6 (pE (kP (.bool true))) (ifK (cmpT (upO leI) (d2P (binP mulI (kP (.int 2)) (vP 8)) (vP 2))) (tupK (pO (consP (binP subI (vP 8) (kP (.int 1))) (consP (vP 8) nilP)))) (tupK (pO (consP (binP subI (vP 2) (vP 8)) (consP (vP 8) nilP)))))) (ifS (cmpT (upO gtI) (d2P (vP 3) (kP (.int 4)))) (putTF 6 (pE (kP (.bool true))) (tupK (consO (callIF 0 1 2 D__law_drop (consA (vE 8) nilA)) (consO (vE 8) nilO)))) nilS)))
noncomputable def f__law_land_l2 : SF := (ifS (andR (cmpT (upO gtI) (d2P (vP 3) (kP (.int 3)))) (cmpT (upO eqD) (d2E (callIF 0 1 2 D__law_drop (consA (pE (binP addI (vP 7) (kP (.int 1)))) nilA)) (p1 (kP (.int 0)))))) (putTF 6 (pE (kP (.bool true))) (tupK (pO (consP (vP 10) (consP (vP 9) nilP))))) nilS)
noncomputable def f__law_land_l3 : SF := (forS (r1I (pO (consP (vP 9) nilP))) (gNameD 10) f__law_land_l2)
noncomputable def f__law_land_e2 : EF := (callE tupleD (consO (callE sortedD (consO (lstE (consA (pE (ixP (vP 11) (vP 10))) (consA (pE (ixP (vP 11) (vP 9))) nilA))) nilO)) nilO))
noncomputable def f__law_land : SF := (seqF (parF 2 3 (consO (binE addD (d2E (pE (kP (.int 2))) (callIF 0 1 2 D__law_drop (consA (pE (binP subI (vP 1) (kP (.int 1)))) nilA)))) (consO (callIF 0 1 2 D__law_drop (consA (pE (kP (.int 10))) nilA)) nilO)))
    (seqF (asgF (ixEE (d2E (lstE (consA (pE (kP (.int 1))) (consA (pE (kP (.int 2))) (consA (pE (kP (.int 9))) (consA (pE (kP (.int 1000001))) nilA))))) (callIF 0 1 2 D__law_drop (consA (pE (kP (.int 4))) nilA)))) (gNameD 4))
    (seqF (par3F 5 6 7 (consO (callE tupleD (consO (lcF (r1I (pO (consP (vP 2) nilP))) (gNameD 8) yesT f__law_land_e1 [8]) nilO)) (consO dicE (consO (binE addD (d2E (pE (kP (.int 1))) (callIF 0 1 2 D__law_drop (consA (pE (kP (.int 6))) nilA)))) nilO))))
    (seqF (forS (r2I (pO (consP (kP (.int 1)) (consP (vP 2) nilP)))) (gNameD 8) f__law_land_l1)
    (seqF (ifS (andR (cmpT (upO eqD) (d2P (vP 3) (kP (.int 1)))) (cmpT (upO gtI) (d2P (vP 2) (kP (.int 2))))) (putTF 6 (pE (kP (.bool true))) (tupK (pO (consP (kP (.int 0)) (consP (binP subI (vP 2) (kP (.int 1))) nilP))))) nilS)
    (seqF (forS (r1I (pO (consP (vP 2) nilP))) (gNameD 9) f__law_land_l3)
    (seqF (asgF (callIF 0 1 2 D__law_order (consA (vE 2) nilA)) (gNameD 11))
    (retS (tupE (consA (vE 5) (consA (callE tupleD (consO (callE sortedD (consO (lcF (fun ρ => liftO (freezeT 6 ρ)) (gTupD (gConsD (gNameD 10) (gConsD (gNameD 9) gNilD))) yesT f__law_land_e2 [10, 9]) nilO)) nilO)) nilA)))))))))))
noncomputable def D__law_land : List D → Res ((D × Nat) × D) := runI 12 2 f__law_land
theorem ok__law_land (Z : Fx K mg n) : FnOk P w K mg base CX0 3 n.a__law_land n.d__law_land ["spring", "places"] (SpI K 1 2 D__law_land) :=
  fn_io Z.F__law_land sc__law_land (by decide) fun cdv A outer s H E hr =>
    (dss_cons (ds_par 2 3 rfl sc__law_land.nd (n_consO (n_binE opd_add (n_d2E (n_pE n_int) (d1_de (de_callI 0 (ok__law_drop Z) (hr.mono (by decide)) Z.g__law_drop Z.F__law_drop.kp (b__law_drop Z) pass0 (n_consA (n_pE (n_bin opp_sub (n_var 1) n_int)) n_nilA))))) (n_consO (de_callI 0 (ok__law_drop Z) (hr.mono (by decide)) Z.g__law_drop Z.F__law_drop.kp (b__law_drop Z) pass0 (n_consA (n_pE n_int) n_nilA)) n_nilO)) (by rfl))
    (dss_cons (ds_set 4 sc__law_land.nd (n_ixE (n_d2E (n_lst (n_consA (n_pE n_int) (n_consA (n_pE n_int) (n_consA (n_pE n_int) (n_consA (n_pE n_int) n_nilA))))) (d1_de (de_callI 0 (ok__law_drop Z) (hr.mono (by decide)) Z.g__law_drop Z.F__law_drop.kp (b__law_drop Z) pass0 (n_consA (n_pE n_int) n_nilA))))))
    (dss_cons (ds_par3 5 6 7 rfl sc__law_land.nd (n_consO (n_callT cd_tuple Z.b_tuple bt_tuple (n_consC (de_lc (own := [("k", 8)]) rfl sc__law_land.nd (n_r1I Z.b_range (n_pC (n_consP (n_var 2) n_nilP))) (blkOk_by (by kernel_rfl)) (fun _ _ _ _ _ => (dg_name 8 sc__law_land.nd)) (fun _ _ _ _ _ => dts_nil) (fun _ _ _ _ _ => (de_callI 0 (ok__law_drop Z) (hr.mono (by decide)) Z.g__law_drop Z.F__law_drop.kp (b__law_drop Z) pass0 (n_consA (n_vE 4) n_nilA)))) n_nilC)) (n_consO n_dic (n_consO (n_binE opd_add (n_d2E (n_pE n_int) (d1_de (de_callI 0 (ok__law_drop Z) (hr.mono (by decide)) Z.g__law_drop Z.F__law_drop.kp (b__law_drop Z) pass0 (n_consA (n_pE n_int) n_nilA))))) n_nilO))) (by rfl))
    (dss_cons (n_for PassesOwn.never rfl (n_r2I Z.b_range (n_pC (n_consP n_int (n_consP (n_var 2) n_nilP)))) (dg_name 8 sc__law_land.nd) (dss_one (ds_if (n_cmpT (n_upO (opp_ltA hr.units0)) (n_d2P (n_var 3) n_int)) (dss_one (ds_dputT 6 (hr1 hr) (n_pE n_bool) (n_tupK (n_pC (n_consP (n_bin opp_sub (n_var 8) n_int) (n_consP (n_var 8) n_nilP)))))) (dss_one (ds_if (n_cmpT (n_upO (opp_eq hr.units)) (n_d2P (n_var 3) n_int)) (dss_one (ds_dputT 6 (hr1 hr) (n_pE n_bool) (n_ifK (n_cmpT (n_upO opp_le) (n_d2P (n_bin opp_mul n_int (n_var 8)) (n_var 2))) (n_tupK (n_pC (n_consP (n_bin opp_sub (n_var 8) n_int) (n_consP (n_var 8) n_nilP)))) (n_tupK (n_pC (n_consP (n_bin opp_sub (n_var 2) (n_var 8)) (n_consP (n_var 8) n_nilP))))))) (dss_one (ds_if (n_cmpT (n_upO opp_gt) (n_d2P (n_var 3) n_int)) (dss_one (ds_dputT 6 (hr1 hr) (n_pE n_bool) (n_tupK (n_consC (de_callI 0 (ok__law_drop Z) (hr.mono (by decide)) Z.g__law_drop Z.F__law_drop.kp (b__law_drop Z) pass0 (n_consA (n_vE 8) n_nilA)) (n_consC (n_vE 8) n_nilC))))) n_nilS)))))))
    (dss_cons (ds_if (dt_pw (dw_and (n_cmpT (n_upO (opp_eq hr.units)) (n_d2P (n_var 3) n_int)) (dw_and1 (n_cmpT (n_upO opp_gt) (n_d2P (n_var 2) n_int))))) (dss_one (ds_dputT 6 (hr1 hr) (n_pE n_bool) (n_tupK (n_pC (n_consP n_int (n_consP (n_bin opp_sub (n_var 2) n_int) n_nilP)))))) n_nilS)
    (dss_cons (n_for PassesOwn.never rfl (n_r1I Z.b_range (n_pC (n_consP (n_var 2) n_nilP))) (dg_name 9 sc__law_land.nd) (dss_one (n_for PassesOwn.never rfl (n_r1I Z.b_range (n_pC (n_consP (n_var 9) n_nilP))) (dg_name 10 sc__law_land.nd) (dss_one (ds_if (dt_pw (dw_and (n_cmpT (n_upO opp_gt) (n_d2P (n_var 3) n_int)) (dw_and1 (n_cmpT (n_upO (opp_eq hr.units)) (n_d2E (de_callI 0 (ok__law_drop Z) (hr.mono (by decide)) Z.g__law_drop Z.F__law_drop.kp (b__law_drop Z) pass0 (n_consA (n_pE (n_bin opp_add (n_var 7) n_int)) n_nilA)) (n_p1 n_int)))))) (dss_one (ds_dputT 6 (hr1 hr) (n_pE n_bool) (n_tupK (n_pC (n_consP (n_var 10) (n_consP (n_var 9) n_nilP)))))) n_nilS)))))
    (dss_cons (ds_set 11 sc__law_land.nd (de_callI 0 (ok__law_order Z) (hr.mono (by decide)) Z.g__law_order Z.F__law_order.kp (b__law_order Z) pass0 (n_consA (n_vE 2) n_nilA)))
    (dss_one (n_ret (n_tup (n_consA (n_vE 5) (n_consA (n_callT cd_tuple Z.b_tuple bt_tuple (n_consC (n_callB cd_sorted Z.b_sorted bt_sorted (n_consC (de_lcT 6 (own := [("i", 10), ("j", 9)]) rfl sc__law_land.nd (blkOk_by (by kernel_rfl)) (fun _ _ _ _ _ => (dg_tup rfl (dgs_cons (dg_name 10 sc__law_land.nd) (dgs_cons (dg_name 9 sc__law_land.nd) dgs_nil)) (gCons_len (gCons_len gNil_len)))) (fun _ _ _ _ _ => dts_nil) (fun _ _ _ _ _ => (n_callT cd_tuple Z.b_tuple bt_tuple (n_consC (n_callB cd_sorted Z.b_sorted bt_sorted (n_consC (n_lst (n_consA (n_pE (n_ix (n_var 11) (n_var 10))) (n_consA (n_pE (n_ix (n_var 11) (n_var 9))) n_nilA))) n_nilC)) n_nilC)))) n_nilC)) n_nilC)) n_nilA))))))))))))
/-! _law_near -/
theorem sc__law_near : FnScope ["land", "place", "k"] ["land", "place"] (defScope (top 29)) := ⟨rfl, rfl, rfl, by decide +kernel, rfl, by decide +kernel, by decide +kernel⟩
theorem b__law_near (Z : Fx K mg n) : Binds K n.d__law_near ["land", "place"] [] := Z.F__law_near.bindsN fun _ _ _ _ _ _ us hl => match us, hl with | [_, _], _ => rfl
noncomputable def f__law_near_c1 : TF := (cmpT (upO (inD false)) (d2E (tupE (consA (pE (callP min2 (consP (vP 2) (consP (vP 1) nilP)))) (consA (pE (callP max2 (consP (vP 2) (consP (vP 1) nilP)))) nilA))) (p1 (ixP (vP 0) (kP (.int 1))))))
noncomputable def f__law_near_e1 : EF := (vE 2)
noncomputable def f__law_near : SF := (retS (lcF (r1I (pO (consP (callP lenD (consP (ixP (vP 0) (kP (.int 0))) nilP)) nilP))) (gNameD 2) f__law_near_c1 f__law_near_e1 [2]))
noncomputable def D__law_near : List D → Res (D × Nat) := runP 3 f__law_near
theorem ok__law_near (Z : Fx K mg n) : FnOk P w K mg base CX0 1 n.a__law_near n.d__law_near ["land", "place"] (SpD K mg 2 D__law_near) :=
  fn_pure Z.F__law_near sc__law_near (by decide) fun cdv A outer s H E hr =>
    (dss_one (n_ret (de_lc (own := [("k", 2)]) rfl sc__law_near.nd (n_r1I Z.b_range (n_pC (n_consP (n_callPB cp_len Z.b_len bt_len (n_consP (n_ix (n_var 0) n_int) n_nilP)) n_nilP))) (blkOk_by (by kernel_rfl)) (fun _ _ _ _ _ => (dg_name 2 sc__law_near.nd)) (fun _ _ _ _ _ => dts_one (n_cmpT (n_upO (opp_in (hr65 hr))) (n_d2E (n_tup (n_consA (n_pE (n_callPB (cp_min2 rfl) Z.b_min bt_min (n_consP (n_var 2) (n_consP (n_var 1) n_nilP)))) (n_consA (n_pE (n_callPB (cp_max2 rfl) Z.b_max bt_max (n_consP (n_var 2) (n_consP (n_var 1) n_nilP)))) n_nilA))) (n_p1 (n_ix (n_var 0) n_int))))) (fun _ _ _ _ _ => (n_vE 2)))))
/-! _law_reached -/
theorem sc__law_reached : FnScope ["land", "lot", "place", "found", "at", "k"] ["land", "lot", "place"] (defScope (top 30)) := ⟨rfl, rfl, rfl, by decide +kernel, rfl, by decide +kernel, by decide +kernel⟩
theorem b__law_reached (Z : Fx K mg n) : Binds K n.d__law_reached ["land", "lot", "place"] [] := Z.F__law_reached.bindsN fun _ _ _ _ _ _ us hl => match us, hl with | [_, _, _], _ => rfl
noncomputable def f__law_reached_c1 : TF := (andR (cmpT (upO (inD false)) (d2P (vP 5) (vP 1))) (cmpT (upO (inD true)) (d2P (vP 5) (vP 3))))
noncomputable def f__law_reached_e1 : EF := (vE 5)
noncomputable def f__law_reached_t1 : TF := (cmpT (upO ltA) (d2P (vP 4) (callP lenD (consP (vP 3) nilP))))
noncomputable def f__law_reached_w1 : SF := (seqF (asgF (binE addD (d2E (vE 3) (lcF (seqD (callDE D__law_near 2 (consA (vE 0) (consA (pE (ixP (vP 3) (vP 4))) nilA)))) (gNameD 5) f__law_reached_c1 f__law_reached_e1 [5]))) (gNameD 3))
    (asgF (pE (binP addI (vP 4) (kP (.int 1)))) (gNameD 4)))
noncomputable def f__law_reached : SF := (seqF (parF 3 4 (consO (lstE (consA (vE 2) nilA)) (consO (pE (kP (.int 0))) nilO)))
    (seqF (whileF f__law_reached_t1 f__law_reached_w1 fuel)
    (retS (callE tupleD (consO (callE sortedD (pO (consP (vP 3) nilP))) nilO)))))
noncomputable def D__law_reached : List D → Res (D × Nat) := runP 6 f__law_reached
theorem ok__law_reached (Z : Fx K mg n) : FnOk P w K mg base CX0 2 n.a__law_reached n.d__law_reached ["land", "lot", "place"] (SpD K mg 3 D__law_reached) :=
  fn_pure Z.F__law_reached sc__law_reached (by decide) fun cdv A outer s H E hr =>
    (dss_cons (ds_parT 3 4 rfl sc__law_reached.nd (n_consO (n_lst (n_consA (n_vE 2) n_nilA)) (n_consO (n_pE n_int) n_nilO)))
    (dss_cons (n_while PassesOwn.never (n_cmpT (n_upO (opp_ltA hr.units0)) (n_d2P (n_var 4) (n_callPB cp_len Z.b_len bt_len (n_consP (n_var 3) n_nilP)))) (dss_cons (ds_set 3 sc__law_reached.nd (n_binE opd_add (n_d2E (n_vE 3) (d1_de (de_lc (own := [("k", 5)]) rfl sc__law_reached.nd (di_seq (n_call (ok__law_near Z) (hr.mono (by decide)) Z.g__law_near Z.F__law_near.kp (b__law_near Z) pass0 (n_consA (n_vE 0) (n_consA (n_pE (n_ix (n_var 3) (n_var 4))) n_nilA)))) (blkOk_by (by kernel_rfl)) (fun _ _ _ _ _ => (dg_name 5 sc__law_reached.nd)) (fun _ _ _ _ _ => dts_one (dt_pw (dw_and (n_cmpT (n_upO (opp_in (hr65 hr))) (n_d2P (n_var 5) (n_var 1))) (dw_and1 (n_cmpT (n_upO (opp_notIn (hr65 hr))) (n_d2P (n_var 5) (n_var 3))))))) (fun _ _ _ _ _ => (n_vE 5)))))))
    (dss_one (ds_set 4 sc__law_reached.nd (n_pE (n_bin opp_add (n_var 4) n_int))))))
    (dss_one (n_ret (n_callT cd_tuple Z.b_tuple bt_tuple (n_consC (n_callB cd_sorted Z.b_sorted bt_sorted (n_pC (n_consP (n_var 3) n_nilP))) n_nilC))))))
/-! _law_pieces -/
theorem sc__law_pieces : FnScope ["land", "lot", "found", "left", "place"] ["land", "lot"] (defScope (top 31)) := ⟨rfl, rfl, rfl, by decide +kernel, rfl, by decide +kernel, by decide +kernel⟩
theorem b__law_pieces (Z : Fx K mg n) : Binds K n.d__law_pieces ["land", "lot"] [] := Z.F__law_pieces.bindsN fun _ _ _ _ _ _ us hl => match us, hl with | [_, _], _ => rfl
noncomputable def f__law_pieces_c1 : TF := (cmpT (upO (inD true)) (d2P (vP 4) (ixP (vP 2) (negP (kP (.int 1))))))
noncomputable def f__law_pieces_e1 : EF := (vE 4)
noncomputable def f__law_pieces_t1 : TF := (cmpT (upO neD) (d2P (vP 3) (kN (.list [], 1))))
noncomputable def f__law_pieces_w1 : SF := (seqF (expS (appendF 2 (callDE D__law_reached 3 (consA (vE 0) (consA (vE 1) (consA (pE (ixP (vP 3) (kP (.int 0)))) nilA))))))
    (asgF (lcF (seqD (vE 3)) (gNameD 4) f__law_pieces_c1 f__law_pieces_e1 [4]) (gNameD 3)))
noncomputable def f__law_pieces : SF := (seqF (parF 2 3 (consO (lstE nilA) (consO (callE listD (pO (consP (vP 1) nilP))) nilO)))
    (seqF (whileF f__law_pieces_t1 f__law_pieces_w1 fuel)
    (retS (callE tupleD (pO (consP (vP 2) nilP))))))
noncomputable def D__law_pieces : List D → Res (D × Nat) := runP 5 f__law_pieces
theorem ok__law_pieces (Z : Fx K mg n) : FnOk P w K mg base CX0 3 n.a__law_pieces n.d__law_pieces ["land", "lot"] (SpD K mg 2 D__law_pieces) :=
  fn_pure Z.F__law_pieces sc__law_pieces (by decide) fun cdv A outer s H E hr =>
    (dss_cons (ds_parT 2 3 rfl sc__law_pieces.nd (n_consO (n_lst n_nilA) (n_consO (n_callT cd_list Z.b_list bt_list (n_pC (n_consP (n_var 1) n_nilP))) n_nilO)))
    (dss_cons (n_while PassesOwn.never (n_cmpT (n_upO (opp_ne hr.units)) (n_d2N (n_var 3) n_nilL)) (dss_cons (n_exp (de_append 2 (n_call (ok__law_reached Z) (hr.mono (by decide)) Z.g__law_reached Z.F__law_reached.kp (b__law_reached Z) pass0 (n_consA (n_vE 0) (n_consA (n_vE 1) (n_consA (n_pE (n_ix (n_var 3) n_int)) n_nilA))))))
    (dss_one (ds_setLc 3 (own := [("place", 4)]) rfl sc__law_pieces.nd rfl (sw_true rfl rfl rfl (by decide +kernel)) (di_seq (n_vE 3)) (blkOk_by (by kernel_rfl)) (fun _ _ _ _ _ => (dg_name 4 sc__law_pieces.nd)) (fun _ _ _ _ _ => dts_one (n_cmpT (n_upO (opp_notIn (hr65 hr))) (n_d2P (n_var 4) (n_ix (n_var 2) (n_neg n_int))))) (fun _ _ _ _ _ => (n_vE 4))))))
    (dss_one (n_ret (n_callT cd_tuple Z.b_tuple bt_tuple (n_pC (n_consP (n_var 2) n_nilP)))))))
/-! _law_plan -/
theorem sc__law_plan : FnScope ["spring", "land", "rarely", "kept", "border"] ["spring", "land"] (defScope (top 32)) := ⟨rfl, rfl, rfl, by decide +kernel, rfl, by decide +kernel, by decide +kernel⟩
theorem b__law_plan (Z : Fx K mg n) : Binds K n.d__law_plan ["spring", "land"] [] := Z.F__law_plan.bindsN fun _ _ _ _ _ _ us hl => match us, hl with | [_, _], _ => rfl
noncomputable def f__law_plan_c1 : TF := (cmpT (upO gtI) (d2E (callIF 0 1 2 D__law_drop (consA (pE (binP addI (vP 2) (kP (.int 1)))) nilA)) (p1 (kP (.int 0)))))
noncomputable def f__law_plan_e1 : EF := (vE 4)
noncomputable def f__law_plan : SF := (seqF (asgF (binE addD (d2E (pE (kP (.int 1))) (callIF 0 1 2 D__law_drop (consA (pE (kP (.int 4))) nilA)))) (gNameD 2))
    (seqF (asgF (callE tupleD (consO (lcF (seqD (pE (ixP (vP 1) (kP (.int 1))))) (gNameD 4) f__law_plan_c1 f__law_plan_e1 [4]) nilO)) (gNameD 3))
    (retS (callDE D__law_pieces 2 (consA (tupE (consA (pE (ixP (vP 1) (kP (.int 0)))) (consA (vE 3) nilA))) (consA (trgE (rg1 (p1 (callP lenD (consP (ixP (vP 1) (kP (.int 0))) nilP))))) nilA))))))
noncomputable def D__law_plan : List D → Res ((D × Nat) × D) := runI 5 2 f__law_plan
theorem ok__law_plan (Z : Fx K mg n) : FnOk P w K mg base CX0 4 n.a__law_plan n.d__law_plan ["spring", "land"] (SpI K 1 2 D__law_plan) :=
  fn_io Z.F__law_plan sc__law_plan (by decide) fun cdv A outer s H E hr =>
    (dss_cons (ds_set 2 sc__law_plan.nd (n_binE opd_add (n_d2E (n_pE n_int) (d1_de (de_callI 0 (ok__law_drop Z) (hr.mono (by decide)) Z.g__law_drop Z.F__law_drop.kp (b__law_drop Z) pass0 (n_consA (n_pE n_int) n_nilA))))))
    (dss_cons (ds_set 3 sc__law_plan.nd (n_callT cd_tuple Z.b_tuple bt_tuple (n_consC (de_lc (own := [("border", 4)]) rfl sc__law_plan.nd (di_seq (n_pE (n_ix (n_var 1) n_int))) (blkOk_by (by kernel_rfl)) (fun _ _ _ _ _ => (dg_name 4 sc__law_plan.nd)) (fun _ _ _ _ _ => dts_one (n_cmpT (n_upO opp_gt) (n_d2E (de_callI 0 (ok__law_drop Z) (hr.mono (by decide)) Z.g__law_drop Z.F__law_drop.kp (b__law_drop Z) pass0 (n_consA (n_pE (n_bin opp_add (n_var 2) n_int)) n_nilA)) (n_p1 n_int)))) (fun _ _ _ _ _ => (n_vE 4))) n_nilC)))
    (dss_one (n_ret (n_call (ok__law_pieces Z) (hr.mono (by decide)) Z.g__law_pieces Z.F__law_pieces.kp (b__law_pieces Z) pass0 (n_consA (n_tup (n_consA (n_pE (n_ix (n_var 1) n_int)) (n_consA (n_vE 3) n_nilA))) (n_consA (n_trg rfl Z.b_tuple (n_rg1 Z.b_range (n_p1 (n_callPB cp_len Z.b_len bt_len (n_consP (n_ix (n_var 1) n_int) n_nilP))))) n_nilA)))))))
/-! _law_kinds -/
theorem sc__law_kinds : FnScope ["thing", "found"] ["thing"] (defScope (top 25)) := ⟨rfl, rfl, rfl, by decide +kernel, rfl, by decide +kernel, by decide +kernel⟩
theorem b__law_kinds (Z : Fx K mg n) : Binds K n.d__law_kinds ["thing"] [] := Z.F__law_kinds.bindsN fun _ _ _ _ _ _ us hl => match us, hl with | [_], _ => rfl
noncomputable def f__law_kinds : SF := (seqF (asgF (lstE (consA (pE (isiP "bool" (vP 0))) (consA (pE (isiP "int" (vP 0))) (consA (pE (isiP "str" (vP 0))) nilA)))) (gNameD 1))
    (retS (binE addD (d2E (vE 1) (lstE (consA (pE (isiP "tuple" (vP 0))) (consA (pE (isiP "list" (vP 0))) (consA (pE (binP isD (vP 0) (kP .none))) nilA))))))))
noncomputable def D__law_kinds : List D → Res (D × Nat) := runP 2 f__law_kinds
theorem ok__law_kinds (Z : Fx K mg n) : FnOk P w K mg base CX0 1 n.a__law_kinds n.d__law_kinds ["thing"] (SpD K mg 1 D__law_kinds) :=
  fn_pure Z.F__law_kinds sc__law_kinds (by decide) fun cdv A outer s H E hr =>
    (dss_cons (ds_set 1 sc__law_kinds.nd (n_lst (n_consA (n_pE (n_isi Z.b_isinstance Z.b_bool bt_bool (by decide) (n_var 0))) (n_consA (n_pE (n_isi Z.b_isinstance Z.b_int bt_int (by decide) (n_var 0))) (n_consA (n_pE (n_isi Z.b_isinstance Z.b_str bt_str (by decide) (n_var 0))) n_nilA)))))
    (dss_one (n_ret (n_binE opd_add (n_d2E (n_vE 1) (d1_de (n_lst (n_consA (n_pE (n_isi Z.b_isinstance Z.b_tuple bt_tuple (by decide) (n_var 0))) (n_consA (n_pE (n_isi Z.b_isinstance Z.b_list bt_list (by decide) (n_var 0))) (n_consA (n_pE (n_cmp opp_is (n_var 0) n_none)) n_nilA))))))))))
/-! _law_alike -/
theorem sc__law_alike : FnScope ["found", "due", "k"] ["found", "due"] (defScope (top 26)) := ⟨rfl, rfl, rfl, by decide +kernel, rfl, by decide +kernel, by decide +kernel⟩
theorem b__law_alike (Z : Fx K mg n) : Binds K n.d__law_alike ["found", "due"] [] := Z.F__law_alike.bindsN fun _ _ _ _ _ _ us hl => match us, hl with | [_, _], _ => rfl
noncomputable def f__law_alike_e1 (self : List D → Res (D × Nat)) : EF := (callDE self 2 (consA (pE (ixP (vP 0) (vP 2))) (consA (pE (ixP (vP 1) (vP 2))) nilA)))
noncomputable def f__law_alike (self : List D → Res (D × Nat)) : SF := (seqF (ifS (cmpT (upO neD) (d2E (callDE D__law_kinds 1 (consA (vE 0) nilA)) (callDE D__law_kinds 1 (consA (vE 1) nilA)))) (retS (pE (kP (.bool false)))) nilS)
    (seqF (ifS (valT (isi2E "tuple" "list" (vP 1))) (retS (andV (p1 (binP eqD (callP lenD (consP (vP 0) nilP)) (callP lenD (consP (vP 1) nilP)))) (callE (upC allD) (consO (lcF (r1I (pO (consP (callP lenD (consP (vP 1) nilP)) nilP))) (gNameD 2) yesT (f__law_alike_e1 self) [2]) nilO)))) nilS)
    (retS (pE (binP eqD (vP 0) (vP 1))))))
noncomputable def D__law_alike : Nat → List D → Res (D × Nat)
  | 0 => runP 3 nevS
  | m + 1 => runP 3 (f__law_alike (D__law_alike m))
theorem ok__law_alike (Z : Fx K mg n) : ∀ m : Nat, FnOk P w K mg base CX0 (2 + m) n.a__law_alike n.d__law_alike ["found", "due"] (SpD K mg 2 (D__law_alike m))
  | 0 => fn_pure Z.F__law_alike sc__law_alike (by decide) fun cdv A outer s H E hr => n_nevs
  | m + 1 => fn_pure Z.F__law_alike sc__law_alike (by decide) fun cdv A outer s H E hr =>
    have G := ok__law_alike Z m
    (dss_cons (ds_if (n_cmpT (n_upO (opp_ne hr.units)) (n_d2E (n_call (ok__law_kinds Z) (hr.mono (Nat.le_trans (m := 2) (by decide) (Nat.le_add_right 2 m))) Z.g__law_kinds Z.F__law_kinds.kp (b__law_kinds Z) pass0 (n_consA (n_vE 0) n_nilA)) (d1_de (n_call (ok__law_kinds Z) (hr.mono (Nat.le_trans (m := 2) (by decide) (Nat.le_add_right 2 m))) Z.g__law_kinds Z.F__law_kinds.kp (b__law_kinds Z) pass0 (n_consA (n_vE 1) n_nilA))))) (dss_one (n_ret (n_pE n_bool))) n_nilS)
    (dss_cons (ds_if (n_valT (d1_de (n_isi2 Z.b_isinstance Z.b_tuple bt_tuple (by decide) Z.b_list bt_list (by decide) (n_var 1)))) (dss_one (n_ret (de_and (n_p1 (n_cmp (opp_eq hr.units) (n_callPB cp_len Z.b_len bt_len (n_consP (n_var 0) n_nilP)) (n_callPB cp_len Z.b_len bt_len (n_consP (n_var 1) n_nilP)))) (de_one (n_callB (n_upC (cp_all rfl)) Z.b_all bt_all (n_consC (de_lc (own := [("k", 2)]) rfl sc__law_alike.nd (n_r1I Z.b_range (n_pC (n_consP (n_callPB cp_len Z.b_len bt_len (n_consP (n_var 1) n_nilP)) n_nilP))) (blkOk_by (by kernel_rfl)) (fun _ _ _ _ _ => (dg_name 2 sc__law_alike.nd)) (fun _ _ _ _ _ => dts_nil) (fun _ _ _ _ _ => (n_call G hr Z.g__law_alike Z.F__law_alike.kp (b__law_alike Z) pass0 (n_consA (n_pE (n_ix (n_var 0) (n_var 2))) (n_consA (n_pE (n_ix (n_var 1) (n_var 2))) n_nilA))))) n_nilC)))))) n_nilS)
    (dss_one (n_ret (n_pE (n_cmp (opp_eq hr.units) (n_var 0) (n_var 1)))))))
/-! is_integer -/
theorem sc_is_integer : FnScope ["value"] ["value"] (defScope (top 6)) := ⟨rfl, rfl, rfl, by decide +kernel, rfl, by decide +kernel, by decide +kernel⟩
theorem b_is_integer (Z : Fx K mg n) : Binds K n.d_is_integer ["value"] [] := Z.F_is_integer.bindsN fun _ _ _ _ _ _ us hl => match us, hl with | [_], _ => rfl
noncomputable def f_is_integer : SF := (retS (andV (p1 (isiP "int" (vP 0))) (notE (p1 (isiP "bool" (vP 0))))))
noncomputable def D_is_integer : List D → Res (D × Nat) := runP 1 f_is_integer
theorem ok_is_integer (Z : Fx K mg n) : FnOk P w K mg base CX0 1 n.a_is_integer n.d_is_integer ["value"] (SpD K mg 1 D_is_integer) :=
  fn_pure Z.F_is_integer sc_is_integer (by decide) fun cdv A outer s H E hr =>
    (dss_one (n_ret (de_and (n_p1 (n_isi Z.b_isinstance Z.b_int bt_int (by decide) (n_var 0))) (de_one (n_notE (n_p1 (n_isi Z.b_isinstance Z.b_bool bt_bool (by decide) (n_var 0))))))))
/-! is_between -/
theorem sc_is_between : FnScope ["least", "value", "most"] ["least", "value", "most"] (defScope (top 7)) := ⟨rfl, rfl, rfl, by decide +kernel, rfl, by decide +kernel, by decide +kernel⟩
theorem b_is_between (Z : Fx K mg n) : Binds K n.d_is_between ["least", "value", "most"] [] := Z.F_is_between.bindsN fun _ _ _ _ _ _ us hl => match us, hl with | [_, _, _], _ => rfl
noncomputable def f_is_between : SF := (retS (andV (callDE D_is_integer 1 (consA (vE 1) nilA)) (pE (chnP leI leI (vP 0) (vP 1) (vP 2)))))
noncomputable def D_is_between : List D → Res (D × Nat) := runP 3 f_is_between
theorem ok_is_between (Z : Fx K mg n) : FnOk P w K mg base CX0 2 n.a_is_between n.d_is_between ["least", "value", "most"] (SpD K mg 3 D_is_between) :=
  fn_pure Z.F_is_between sc_is_between (by decide) fun cdv A outer s H E hr =>
    (dss_one (n_ret (de_and (d1_de (n_call (ok_is_integer Z) (hr.mono (by decide)) Z.g_is_integer Z.F_is_integer.kp (b_is_integer Z) pass0 (n_consA (n_vE 1) n_nilA))) (de_one (n_pE (n_chn opp_le opp_le (n_var 0) (n_var 1) (n_var 2) ii_bool ii_bool))))))
/-! folk_fault -/
theorem sc_folk_fault : FnScope ["folk", "k", "many"] ["folk"] (defScope (top 14)) := ⟨rfl, rfl, rfl, by decide +kernel, rfl, by decide +kernel, by decide +kernel⟩
theorem b_folk_fault (Z : Fx K mg n) : Binds K n.d_folk_fault ["folk"] [] := Z.F_folk_fault.bindsN fun _ _ _ _ _ _ us hl => match us, hl with | [_], _ => rfl
noncomputable def f_folk_fault_l1 : SF := (ifS (notT (valT (callDE D_is_between 3 (consA (pE (kP (.int 0))) (consA (vE 2) (consA (pE (kP (.int 1000000))) nilA)))))) (retS (tupE (consA (pE (kP (.int 0))) (consA (vE 1) nilA)))) nilS)
noncomputable def f_folk_fault : SF := (seqF (ifS (orR (notT (valT (p1 (isiP "tuple" (vP 0))))) (notT (chnT leI leI (kP (.int 2)) (callP lenD (consP (vP 0) nilP)) (kP (.int 12))))) (retS (tupE (consA (pE (kP (.int 0))) nilA))) nilS)
    (seqF (forS (enum1 (consA (vE 0) nilA)) (gTupD (gConsD (gNameD 1) (gConsD (gNameD 2) gNilD))) f_folk_fault_l1)
    (retS (pE (kP .none)))))
noncomputable def D_folk_fault : List D → Res (D × Nat) := runP 3 f_folk_fault
theorem ok_folk_fault (Z : Fx K mg n) : FnOk P w K mg base CX0 3 n.a_folk_fault n.d_folk_fault ["folk"] (SpD K mg 1 D_folk_fault) :=
  fn_pure Z.F_folk_fault sc_folk_fault (by decide) fun cdv A outer s H E hr =>
    (dss_cons (ds_if (dt_pw (dw_or (n_notT (n_valT (n_p1 (n_isi Z.b_isinstance Z.b_tuple bt_tuple (by decide) (n_var 0))))) (dw_or1 (n_notT (n_chnT opp_le opp_le n_int (n_callPB cp_len Z.b_len bt_len (n_consP (n_var 0) n_nilP)) (n_glob Z.c_MOST_PLACES Z.r_MOST_PLACES (fun _ _ => .int _)) ii_bool))))) (dss_one (n_ret (n_tup (n_consA (n_pE n_int) n_nilA)))) n_nilS)
    (dss_cons (n_for PassesOwn.never rfl (n_enum Z.b_enumerate (n_consA (n_vE 0) n_nilA)) (dg_tup rfl (dgs_cons (dg_name 1 sc_folk_fault.nd) (dgs_cons (dg_name 2 sc_folk_fault.nd) dgs_nil)) (gCons_len (gCons_len gNil_len))) (dss_one (ds_if (n_notT (n_valT (d1_de (n_call (ok_is_between Z) (hr.mono (by decide)) Z.g_is_between Z.F_is_between.kp (b_is_between Z) pass0 (n_consA (n_pE n_int) (n_consA (n_vE 2) (n_consA (n_pE (n_glob Z.c_MOST_FOLK Z.r_MOST_FOLK (fun _ _ => .int _))) n_nilA))))))) (dss_one (n_ret (n_tup (n_consA (n_pE n_int) (n_consA (n_vE 1) n_nilA))))) n_nilS)))
    (dss_one (n_ret (n_pE n_none)))))
/-! is_tuple_of -/
theorem sc_is_tuple_of : FnScope ["length", "value"] ["length", "value"] (defScope (top 8)) := ⟨rfl, rfl, rfl, by decide +kernel, rfl, by decide +kernel, by decide +kernel⟩
theorem b_is_tuple_of (Z : Fx K mg n) : Binds K n.d_is_tuple_of ["length", "value"] [] := Z.F_is_tuple_of.bindsN fun _ _ _ _ _ _ us hl => match us, hl with | [_, _], _ => rfl
noncomputable def f_is_tuple_of : SF := (retS (andV (p1 (isiP "tuple" (vP 1))) (pE (binP eqD (callP lenD (consP (vP 1) nilP)) (vP 0)))))
noncomputable def D_is_tuple_of : List D → Res (D × Nat) := runP 2 f_is_tuple_of
theorem ok_is_tuple_of (Z : Fx K mg n) : FnOk P w K mg base CX0 1 n.a_is_tuple_of n.d_is_tuple_of ["length", "value"] (SpD K mg 2 D_is_tuple_of) :=
  fn_pure Z.F_is_tuple_of sc_is_tuple_of (by decide) fun cdv A outer s H E hr =>
    (dss_one (n_ret (de_and (n_p1 (n_isi Z.b_isinstance Z.b_tuple bt_tuple (by decide) (n_var 1))) (de_one (n_pE (n_cmp (opp_eq hr.units) (n_callPB cp_len Z.b_len bt_len (n_consP (n_var 1) n_nilP)) (n_var 0)))))))
/-! is_border -/
theorem sc_is_border : FnScope ["many", "value"] ["many", "value"] (defScope (top 13)) := ⟨rfl, rfl, rfl, by decide +kernel, rfl, by decide +kernel, by decide +kernel⟩
theorem b_is_border (Z : Fx K mg n) : Binds K n.d_is_border ["many", "value"] [] := Z.F_is_border.bindsN fun _ _ _ _ _ _ us hl => match us, hl with | [_, _], _ => rfl
noncomputable def f_is_border : SF := (retS (andV (callDE D_is_tuple_of 2 (consA (pE (kP (.int 2))) (consA (vE 1) nilA))) (andV (callDE D_is_between 3 (consA (pE (kP (.int 0))) (consA (pE (ixP (vP 1) (kP (.int 0)))) (consA (pE (binP subI (vP 0) (kP (.int 1)))) nilA)))) (callDE D_is_between 3 (consA (pE (binP addI (ixP (vP 1) (kP (.int 0))) (kP (.int 1)))) (consA (pE (ixP (vP 1) (kP (.int 1)))) (consA (pE (binP subI (vP 0) (kP (.int 1)))) nilA)))))))
noncomputable def D_is_border : List D → Res (D × Nat) := runP 2 f_is_border
theorem ok_is_border (Z : Fx K mg n) : FnOk P w K mg base CX0 3 n.a_is_border n.d_is_border ["many", "value"] (SpD K mg 2 D_is_border) :=
  fn_pure Z.F_is_border sc_is_border (by decide) fun cdv A outer s H E hr =>
    (dss_one (n_ret (de_and (d1_de (n_call (ok_is_tuple_of Z) (hr.mono (by decide)) Z.g_is_tuple_of Z.F_is_tuple_of.kp (b_is_tuple_of Z) pass0 (n_consA (n_pE n_int) (n_consA (n_vE 1) n_nilA)))) (de_and (d1_de (n_call (ok_is_between Z) (hr.mono (by decide)) Z.g_is_between Z.F_is_between.kp (b_is_between Z) pass0 (n_consA (n_pE n_int) (n_consA (n_pE (n_ix (n_var 1) n_int)) (n_consA (n_pE (n_bin opp_sub (n_var 0) n_int)) n_nilA))))) (de_one (n_call (ok_is_between Z) (hr.mono (by decide)) Z.g_is_between Z.F_is_between.kp (b_is_between Z) pass0 (n_consA (n_pE (n_bin opp_add (n_ix (n_var 1) n_int) n_int)) (n_consA (n_pE (n_ix (n_var 1) n_int)) (n_consA (n_pE (n_bin opp_sub (n_var 0) n_int)) n_nilA)))))))))
/-! land_fault -/
theorem sc_land_fault : FnScope ["value", "found", "borders", "k", "border"] ["value"] (defScope (top 15)) := ⟨rfl, rfl, rfl, by decide +kernel, rfl, by decide +kernel, by decide +kernel⟩
theorem b_land_fault (Z : Fx K mg n) : Binds K n.d_land_fault ["value"] [] := Z.F_land_fault.bindsN fun _ _ _ _ _ _ us hl => match us, hl with | [_], _ => rfl
noncomputable def f_land_fault_l1 : SF := (ifS (orR (notT (valT (callDE D_is_border 2 (consA (pE (callP lenD (consP (ixP (vP 0) (kP (.int 0))) nilP))) (consA (vE 4) nilA))))) (andR (cmpT (upO gtI) (d2P (vP 3) (kP (.int 0)))) (notT (cmpT (upO ltA) (d2P (ixP (vP 2) (binP subI (vP 3) (kP (.int 1)))) (vP 4)))))) (retS (tupE (consA (pE (kP (.int 1))) (consA (vE 3) nilA)))) nilS)
noncomputable def f_land_fault : SF := (seqF (ifS (notT (valT (callDE D_is_tuple_of 2 (consA (pE (kP (.int 2))) (consA (vE 0) nilA))))) (retS (tupE nilA)) nilS)
    (seqF (asgF (callDE D_folk_fault 1 (consA (pE (ixP (vP 0) (kP (.int 0)))) nilA)) (gNameD 1))
    (seqF (ifS (cmpT (upO isNotD) (d2P (vP 1) (kP .none))) (retS (tkE 1)) nilS)
    (seqF (asgF (pE (ixP (vP 0) (kP (.int 1)))) (gNameD 2))
    (seqF (ifS (notT (valT (p1 (isiP "tuple" (vP 2))))) (retS (tupE (consA (pE (kP (.int 1))) nilA))) nilS)
    (seqF (forS (enum1 (consA (vE 2) nilA)) (gTupD (gConsD (gNameD 3) (gConsD (gNameD 4) gNilD))) f_land_fault_l1)
    (retS (pE (kP .none)))))))))
noncomputable def D_land_fault : List D → Res (D × Nat) := runP 5 f_land_fault
theorem ok_land_fault (Z : Fx K mg n) : FnOk P w K mg base CX0 4 n.a_land_fault n.d_land_fault ["value"] (SpD K mg 1 D_land_fault) :=
  fn_pure Z.F_land_fault sc_land_fault (by decide) fun cdv A outer s H E hr =>
    (dss_cons (ds_if (n_notT (n_valT (d1_de (n_call (ok_is_tuple_of Z) (hr.mono (by decide)) Z.g_is_tuple_of Z.F_is_tuple_of.kp (b_is_tuple_of Z) pass0 (n_consA (n_pE n_int) (n_consA (n_vE 0) n_nilA)))))) (dss_one (n_ret (n_tup n_nilA))) n_nilS)
    (dss_cons (ds_set 1 sc_land_fault.nd (n_call (ok_folk_fault Z) (hr.mono (by decide)) Z.g_folk_fault Z.F_folk_fault.kp (b_folk_fault Z) pass0 (n_consA (n_pE (n_ix (n_var 0) n_int)) n_nilA)))
    (dss_cons (ds_if (n_cmpT (n_upO opp_isnot) (n_d2P (n_var 1) n_none)) (dss_one (n_ret (n_tk 1))) n_nilS)
    (dss_cons (ds_set 2 sc_land_fault.nd (n_pE (n_ix (n_var 0) n_int)))
    (dss_cons (ds_if (n_notT (n_valT (n_p1 (n_isi Z.b_isinstance Z.b_tuple bt_tuple (by decide) (n_var 2))))) (dss_one (n_ret (n_tup (n_consA (n_pE n_int) n_nilA)))) n_nilS)
    (dss_cons (n_for PassesOwn.never rfl (n_enum Z.b_enumerate (n_consA (n_vE 2) n_nilA)) (dg_tup rfl (dgs_cons (dg_name 3 sc_land_fault.nd) (dgs_cons (dg_name 4 sc_land_fault.nd) dgs_nil)) (gCons_len (gCons_len gNil_len))) (dss_one (ds_if (dt_pw (dw_or (n_notT (n_valT (d1_de (n_call (ok_is_border Z) (hr.mono (by decide)) Z.g_is_border Z.F_is_border.kp (b_is_border Z) pass0 (n_consA (n_pE (n_callPB cp_len Z.b_len bt_len (n_consP (n_ix (n_var 0) n_int) n_nilP))) (n_consA (n_vE 4) n_nilA)))))) (dw_or1 (dt_pw (dw_and (n_cmpT (n_upO opp_gt) (n_d2P (n_var 3) n_int)) (dw_and1 (n_notT (n_cmpT (n_upO (opp_ltA hr.units0)) (n_d2P (n_ix (n_var 2) (n_bin opp_sub (n_var 3) n_int)) (n_var 4)))))))))) (dss_one (n_ret (n_tup (n_consA (n_pE n_int) (n_consA (n_vE 3) n_nilA))))) n_nilS)))
    (dss_one (n_ret (n_pE n_none)))))))))
/-! check_land -/
theorem sc_check_land : FnScope ["land", "place"] ["land"] (defScope (top 16)) := ⟨rfl, rfl, rfl, by decide +kernel, rfl, by decide +kernel, by decide +kernel⟩
theorem b_check_land (Z : Fx K mg n) : Binds K n.d_check_land ["land"] [] := Z.F_check_land.bindsN fun _ _ _ _ _ _ us hl => match us, hl with | [_], _ => rfl
noncomputable def f_check_land : SF := (seqF (asgF (callDE D_land_fault 1 (consA (vE 0) nilA)) (gNameD 1))
    (ifS (cmpT (upO isNotD) (d2P (vP 1) (kP .none))) nevS nilS))
noncomputable def D_check_land : List D → Res (D × Nat) := runP 2 f_check_land
theorem ok_check_land (Z : Fx K mg n) : FnOk P w K mg base CX0 5 n.a_check_land n.d_check_land ["land"] (SpD K mg 1 D_check_land) :=
  fn_pure Z.F_check_land sc_check_land (by decide) fun cdv A outer s H E hr =>
    (dss_cons (ds_set 1 sc_check_land.nd (n_call (ok_land_fault Z) (hr.mono (by decide)) Z.g_land_fault Z.F_land_fault.kp (b_land_fault Z) pass0 (n_consA (n_vE 0) n_nilA)))
    (dss_one (ds_if (n_cmpT (n_upO opp_isnot) (n_d2P (n_var 1) n_none)) (dss_one n_nev) n_nilS)))
/-! as_plan -/
theorem sc_as_plan : FnScope ["wards", "ward"] ["wards"] (defScope (top 20)) := ⟨rfl, rfl, rfl, by decide +kernel, rfl, by decide +kernel, by decide +kernel⟩
theorem b_as_plan (Z : Fx K mg n) : Binds K n.d_as_plan ["wards"] [] := Z.F_as_plan.bindsN fun _ _ _ _ _ _ us hl => match us, hl with | [_], _ => rfl
noncomputable def f_as_plan_e1 : EF := (callE tupleD (consO (callE sortedD (pO (consP (vP 1) nilP))) nilO))
noncomputable def f_as_plan : SF := (retS (callE tupleD (consO (callE sortedLD (consO (lcF (seqD (vE 0)) (gNameD 1) yesT f_as_plan_e1 [1]) nilO)) nilO)))
noncomputable def D_as_plan : List D → Res (D × Nat) := runP 2 f_as_plan
theorem ok_as_plan (Z : Fx K mg n) : FnOk P w K mg base CX0 1 n.a_as_plan n.d_as_plan ["wards"] (SpD K mg 1 D_as_plan) :=
  fn_pure Z.F_as_plan sc_as_plan (by decide) fun cdv A outer s H E hr =>
    (dss_one (n_ret (n_callT cd_tuple Z.b_tuple bt_tuple (n_consC (n_callB cd_sortedL Z.b_sorted bt_sorted (n_consC (de_lc (own := [("ward", 1)]) rfl sc_as_plan.nd (di_seq (n_vE 0)) (blkOk_by (by kernel_rfl)) (fun _ _ _ _ _ => (dg_name 1 sc_as_plan.nd)) (fun _ _ _ _ _ => dts_nil) (fun _ _ _ _ _ => (n_callT cd_tuple Z.b_tuple bt_tuple (n_consC (n_callB cd_sorted Z.b_sorted bt_sorted (n_pC (n_consP (n_var 1) n_nilP))) n_nilC)))) n_nilC)) n_nilC))))
/-! size_of -/
theorem sc_size_of : FnScope ["land"] ["land"] (defScope (top 12)) := ⟨rfl, rfl, rfl, by decide +kernel, rfl, by decide +kernel, by decide +kernel⟩
theorem b_size_of (Z : Fx K mg n) : Binds K n.d_size_of ["land"] [] := Z.F_size_of.bindsN fun _ _ _ _ _ _ us hl => match us, hl with | [_], _ => rfl
noncomputable def f_size_of : SF := (retS (pE (callP lenD (consP (ixP (vP 0) (kP (.int 0))) nilP))))
noncomputable def D_size_of : List D → Res (D × Nat) := runP 1 f_size_of
theorem ok_size_of (Z : Fx K mg n) : FnOk P w K mg base CX0 1 n.a_size_of n.d_size_of ["land"] (SpD K mg 1 D_size_of) :=
  fn_pure Z.F_size_of sc_size_of (by decide) fun cdv A outer s H E hr =>
    (dss_one (n_ret (n_pE (n_callPB cp_len Z.b_len bt_len (n_consP (n_ix (n_var 0) n_int) n_nilP)))))
/-! reached -/
theorem sc_reached : FnScope ["rows", "start", "let", "found", "turn", "place"] ["rows", "start", "let"] (defScope (top 18)) := ⟨rfl, rfl, rfl, by decide +kernel, rfl, by decide +kernel, by decide +kernel⟩
theorem b_reached (Z : Fx K mg n) : Binds K n.d_reached ["rows", "start", "let"] [] := Z.F_reached.bindsN fun _ _ _ _ _ _ us hl => match us, hl with | [_, _, _], _ => rfl
noncomputable def f_reached_l1 : SF := (ifS (andR (cmpT (upO (inD false)) (d2P (vP 5) (vP 2))) (cmpT (upO (inD true)) (d2P (vP 5) (vP 3)))) (expS (appendF 3 (vE 5))) nilS)
noncomputable def f_reached_t1 : TF := (cmpT (upO ltA) (d2P (vP 4) (callP lenD (consP (vP 3) nilP))))
noncomputable def f_reached_w1 : SF := (seqF (forS (seqD (pE (ixP (vP 0) (ixP (vP 3) (vP 4))))) (gNameD 5) f_reached_l1)
    (augF 4 (fun i j => i + j) (pE (kP (.int 1)))))
noncomputable def f_reached : SF := (seqF (parF 3 4 (consO (lstE (consA (vE 1) nilA)) (consO (pE (kP (.int 0))) nilO)))
    (seqF (whileF f_reached_t1 f_reached_w1 fuel)
    (retS (callE sortedD (pO (consP (vP 3) nilP))))))
noncomputable def D_reached : List D → Res (D × Nat) := runP 6 f_reached
theorem ok_reached (Z : Fx K mg n) : FnOk P w K mg base CX0 1 n.a_reached n.d_reached ["rows", "start", "let"] (SpD K mg 3 D_reached) :=
  fn_pure Z.F_reached sc_reached (by decide) fun cdv A outer s H E hr =>
    (dss_cons (ds_par 3 4 rfl sc_reached.nd (n_consO (n_lst (n_consA (n_vE 1) n_nilA)) (n_consO (n_pE n_int) n_nilO)) (by rfl))
    (dss_cons (n_while PassesOwn.never (n_cmpT (n_upO (opp_ltA hr.units0)) (n_d2P (n_var 4) (n_callPB cp_len Z.b_len bt_len (n_consP (n_var 3) n_nilP)))) (dss_cons (n_for PassesOwn.never rfl (di_seq (n_pE (n_ix (n_var 0) (n_ix (n_var 3) (n_var 4))))) (dg_name 5 sc_reached.nd) (dss_one (ds_if (dt_pw (dw_and (n_cmpT (n_upO (opp_in (hr65 hr))) (n_d2P (n_var 5) (n_var 2))) (dw_and1 (n_cmpT (n_upO (opp_notIn (hr65 hr))) (n_d2P (n_var 5) (n_var 3)))))) (dss_one (n_exp (de_append 3 (n_vE 5)))) n_nilS)))
    (dss_one (ds_aug 4 sc_reached.nd (n_pE n_int) ip_add))))
    (dss_one (n_ret (n_callB cd_sorted Z.b_sorted bt_sorted (n_pC (n_consP (n_var 3) n_nilP)))))))
/-! hangs_of -/
theorem sc_hangs_of : FnScope ["rows", "lot"] ["rows", "lot"] (defScope (top 19)) := ⟨rfl, rfl, rfl, by decide +kernel, rfl, by decide +kernel, by decide +kernel⟩
theorem b_hangs_of (Z : Fx K mg n) : Binds K n.d_hangs_of ["rows", "lot"] [] := Z.F_hangs_of.bindsN fun _ _ _ _ _ _ us hl => match us, hl with | [_, _], _ => rfl
noncomputable def f_hangs_of : SF := (retS (binE (upO eqD) (d2E (callE (upC lenD) (consO (callDE D_reached 3 (consA (vE 0) (consA (pE (ixP (vP 1) (kP (.int 0)))) (consA (vE 1) nilA)))) nilO)) (p1 (callP lenD (consP (vP 1) nilP))))))
noncomputable def D_hangs_of : List D → Res (D × Nat) := runP 2 f_hangs_of
theorem ok_hangs_of (Z : Fx K mg n) : FnOk P w K mg base CX0 2 n.a_hangs_of n.d_hangs_of ["rows", "lot"] (SpD K mg 2 D_hangs_of) :=
  fn_pure Z.F_hangs_of sc_hangs_of (by decide) fun cdv A outer s H E hr =>
    (dss_one (n_ret (n_cmpE (n_upO (opp_eq hr.units)) (n_d2E (n_callB (n_upC cp_len) Z.b_len bt_len (n_consC (n_call (ok_reached Z) (hr.mono (by decide)) Z.g_reached Z.F_reached.kp (b_reached Z) pass0 (n_consA (n_vE 0) (n_consA (n_pE (n_ix (n_var 1) n_int)) (n_consA (n_vE 1) n_nilA)))) n_nilC)) (n_p1 (n_callPB cp_len Z.b_len bt_len (n_consP (n_var 1) n_nilP)))))))
/-! rows_of -/
theorem sc_rows_of : FnScope ["land", "found", "place", "one", "other", "row"] ["land"] (defScope (top 17)) := ⟨rfl, rfl, rfl, by decide +kernel, rfl, by decide +kernel, by decide +kernel⟩
theorem b_rows_of (Z : Fx K mg n) : Binds K n.d_rows_of ["land"] [] := Z.F_rows_of.bindsN fun _ _ _ _ _ _ us hl => match us, hl with | [_], _ => rfl
noncomputable def f_rows_of_e1 : EF := (lstE nilA)
noncomputable def f_rows_of_l1 : SF := (seqF (expS (app2F 1 (vP 3) (vP 4)))
    (expS (app2F 1 (vP 4) (vP 3))))
noncomputable def f_rows_of_e2 : EF := (callE sortedD (pO (consP (vP 5) nilP)))
noncomputable def f_rows_of : SF := (seqF (asgF (lcO (seqD (pE (ixP (vP 0) (kP (.int 0))))) (gNameD 2) f_rows_of_e1 [2]) (gNameD 1))
    (seqF (forS (seqD (pE (ixP (vP 0) (kP (.int 1))))) (gTupD (gConsD (gNameD 3) (gConsD (gNameD 4) gNilD))) f_rows_of_l1)
    (retS (lcF (seqD (vE 1)) (gNameD 5) yesT f_rows_of_e2 [5]))))
noncomputable def D_rows_of : List D → Res (D × Nat) := runP 6 f_rows_of
theorem ok_rows_of (Z : Fx K mg n) : FnOk P w K mg base CX0 1 n.a_rows_of n.d_rows_of ["land"] (SpD K mg 1 D_rows_of) :=
  fn_pure Z.F_rows_of sc_rows_of (by decide) fun cdv A outer s H E hr =>
    (dss_cons (ds_setLcO 1 (own := [("place", 2)]) rfl sc_rows_of.nd rfl (sw_true rfl rfl rfl (by decide +kernel)) (di_seq (n_pE (n_ix (n_var 0) n_int))) (blkOk_by (by kernel_rfl)) (fun _ _ _ _ _ => (dg_name 2 sc_rows_of.nd)) (fun _ _ _ _ _ => (n_lst n_nilA)))
    (dss_cons (n_for PassesOwn.never rfl (di_seq (n_pE (n_ix (n_var 0) n_int))) (dg_tup rfl (dgs_cons (dg_name 3 sc_rows_of.nd) (dgs_cons (dg_name 4 sc_rows_of.nd) dgs_nil)) (gCons_len (gCons_len gNil_len))) (dss_cons (n_exp (de_append2 1 (n_var 3) (n_var 4)))
    (dss_one (n_exp (de_append2 1 (n_var 4) (n_var 3))))))
    (dss_one (n_ret (de_lc (own := [("row", 5)]) rfl sc_rows_of.nd (di_seq (n_vE 1)) (blkOk_by (by kernel_rfl)) (fun _ _ _ _ _ => (dg_name 5 sc_rows_of.nd)) (fun _ _ _ _ _ => dts_nil) (fun _ _ _ _ _ => (n_callB cd_sorted Z.b_sorted bt_sorted (n_pC (n_consP (n_var 5) n_nilP)))))))))
/-! plan_of -/
theorem sc_plan_of : FnScope ["land", "row", "one", "wards", "mark", "place", "ward"] ["land", "row"] (defScope (top 21)) := ⟨rfl, rfl, rfl, by decide +kernel, rfl, by decide +kernel, by decide +kernel⟩
theorem b_plan_of (Z : Fx K mg n) : Binds K n.d_plan_of ["land", "row"] [] := Z.F_plan_of.bindsN fun _ _ _ _ _ _ us hl => match us, hl with | [_, _], _ => rfl
theorem kb_plan_of_row_land (Z : Fx K mg n) : KBn K n.d_plan_of ["land", "row"] 0 ["row", "land"] (fun _ ws => permF [1, 0] ws) (fun _ zs => permF [1, 0] zs) := kb_of Z.F_plan_of [1, 0] fun _ _ _ _ _ _ ws hl => match ws, hl with | [_, _], _ => rfl
noncomputable def f_plan_of_e1 : EF := (callDE D_is_integer 1 (consA (vE 2) nilA))
noncomputable def f_plan_of_c1 : TF := (cmpT (upO eqD) (d2P (vP 2) (vP 4)))
noncomputable def f_plan_of_e2 : EF := (vE 5)
noncomputable def f_plan_of_e3 : EF := (lcF (enum1 (consA (vE 1) nilA)) (gTupD (gConsD (gNameD 5) (gConsD (gNameD 2) gNilD))) f_plan_of_c1 f_plan_of_e2 [5, 2])
noncomputable def f_plan_of_e4 : EF := (callDE D_hangs_of 2 (consA (callDE D_rows_of 1 (consA (vE 0) nilA)) (consA (vE 6) nilA)))
noncomputable def f_plan_of : SF := (seqF (nxS (expS (callDE D_check_land 1 (consA (vE 0) nilA))))
    (seqF (nxS (ifS (orR (notT (valT (callDE D_is_tuple_of 2 (consA (callDE D_size_of 1 (consA (vE 0) nilA)) (consA (vE 1) nilA))))) (notT (valT (callE (upC allD) (consO (lcF (seqD (vE 1)) (gNameD 2) yesT f_plan_of_e1 [2]) nilO))))) nevS nilS))
    (seqF (nxS (asgF (lcF (seqD (callE sortSetI (pO (consP (vP 1) nilP)))) (gNameD 4) yesT f_plan_of_e3 [4]) (gNameD 3)))
    (seqF (ifS (nxS (notT (valT (callE (upC allD) (consO (lcF (seqD (vE 3)) (gNameD 6) yesT f_plan_of_e4 [6]) nilO))))) (raiseS "Refused") nilS)
    (nxS (retS (callDE D_as_plan 1 (consA (vE 3) nilA))))))))
noncomputable def D_plan_of : List D → Res (D × Nat) := runX 7 f_plan_of
theorem ok_plan_of (Z : Fx K mg n) : FnOk P w K mg base (L2.CX P w) 6 n.a_plan_of n.d_plan_of ["land", "row"] (SpD K mg 2 D_plan_of) :=
  fn_exc Z.F_plan_of sc_plan_of (by decide) fun cdv A outer s H E hr =>
    (dss_cons (ds_nox (n_exp (n_call (ok_check_land Z) (hr.mono (by decide)) Z.g_check_land Z.F_check_land.kp (b_check_land Z) pass0 (n_consA (n_vE 0) n_nilA))))
    (dss_cons (ds_nox (ds_if (dt_pw (dw_or (n_notT (n_valT (d1_de (n_call (ok_is_tuple_of Z) (hr.mono (by decide)) Z.g_is_tuple_of Z.F_is_tuple_of.kp (b_is_tuple_of Z) pass0 (n_consA (n_call (ok_size_of Z) (hr.mono (by decide)) Z.g_size_of Z.F_size_of.kp (b_size_of Z) pass0 (n_consA (n_vE 0) n_nilA)) (n_consA (n_vE 1) n_nilA)))))) (dw_or1 (n_notT (n_valT (d1_de (n_callB (n_upC (cp_all rfl)) Z.b_all bt_all (n_consC (de_lc (own := [("one", 2)]) rfl sc_plan_of.nd (di_seq (n_vE 1)) (blkOk_by (by kernel_rfl)) (fun _ _ _ _ _ => (dg_name 2 sc_plan_of.nd)) (fun _ _ _ _ _ => dts_nil) (fun _ _ _ _ _ => (n_call (ok_is_integer Z) (hr.mono (by decide)) Z.g_is_integer Z.F_is_integer.kp (b_is_integer Z) pass0 (n_consA (n_vE 2) n_nilA)))) n_nilC)))))))) (dss_one n_nev) n_nilS))
    (dss_cons (ds_nox (ds_setLc 3 (own := [("mark", 4)]) rfl sc_plan_of.nd rfl (sw_true rfl rfl rfl (by decide +kernel)) (di_seq (de_sortsetI rfl Z.b_sorted Z.b_set (n_pC (n_consP (n_var 1) n_nilP)))) (blkOk_by (by kernel_rfl)) (fun _ _ _ _ _ => (dg_name 4 sc_plan_of.nd)) (fun _ _ _ _ _ => dts_nil) (fun _ _ _ _ _ => (de_lc (own := [("place", 5), ("one", 2)]) rfl sc_plan_of.nd (n_enum Z.b_enumerate (n_consA (n_vE 1) n_nilA)) (blkOk_by (by kernel_rfl)) (fun _ _ _ _ _ => (dg_tup rfl (dgs_cons (dg_name 5 sc_plan_of.nd) (dgs_cons (dg_name 2 sc_plan_of.nd) dgs_nil)) (gCons_len (gCons_len gNil_len)))) (fun _ _ _ _ _ => dts_one (n_cmpT (n_upO (opp_eq hr.units)) (n_d2P (n_var 2) (n_var 4)))) (fun _ _ _ _ _ => (n_vE 5))))))
    (dss_cons (ds_if (dt_nox (n_notT (n_valT (d1_de (n_callB (n_upC (cp_all rfl)) Z.b_all bt_all (n_consC (de_lc (own := [("ward", 6)]) rfl sc_plan_of.nd (di_seq (n_vE 3)) (blkOk_by (by kernel_rfl)) (fun _ _ _ _ _ => (dg_name 6 sc_plan_of.nd)) (fun _ _ _ _ _ => dts_nil) (fun _ _ _ _ _ => (n_call (ok_hangs_of Z) (hr.mono (by decide)) Z.g_hangs_of Z.F_hangs_of.kp (b_hangs_of Z) pass0 (n_consA (n_call (ok_rows_of Z) (hr.mono (by decide)) Z.g_rows_of Z.F_rows_of.kp (b_rows_of Z) pass0 (n_consA (n_vE 0) n_nilA)) (n_consA (n_vE 6) n_nilA))))) n_nilC)))))) (dss_one (ds_raise rfl takes_body Z.x_Refused)) n_nilS)
    (dss_one (ds_nox (n_ret (n_call (ok_as_plan Z) (hr.mono (by decide)) Z.g_as_plan Z.F_as_plan.kp (b_as_plan Z) pass0 (n_consA (n_vE 3) n_nilA)))))))))
/-! _law_told -/
theorem sc__law_told : FnScope ["land", "row", "named", "found"] ["land", "row", "named"] (defScope (top 34)) := ⟨rfl, rfl, rfl, by decide +kernel, rfl, by decide +kernel, by decide +kernel⟩
theorem b__law_told (Z : Fx K mg n) : Binds K n.d__law_told ["land", "row", "named"] [] := Z.F__law_told.bindsN fun _ _ _ _ _ _ us hl => match us, hl with | [_, _, _], _ => rfl
noncomputable def f__law_told : SF := (seqF (asgF (tupE (consA (pE (kP (.str "other"))) nilA)) (gNameD 3))
    (seqF (tryF (asgF (ifR (valT (p1 (vP 2))) (callKE D_plan_of 2 2 [1, 0] (consA (vE 1) (consA (vE 0) nilA))) (callDE D_plan_of 2 (consA (vE 0) (consA (vE 1) nilA)))) (gNameD 3)) [(sub1 [("Refused", true)], (asgF (pE (kP .none)) (gNameD 3))), (sub1 [("Refused", true)], (asgF (tupE (consA (pE (kP (.str "other"))) nilA)) (gNameD 3)))])
    (retS (tkE 3))))
noncomputable def D__law_told : List D → Res (D × Nat) := runP 4 f__law_told
theorem ok__law_told (Z : Fx K mg n) : FnOk P w K mg base CX0 7 n.a__law_told n.d__law_told ["land", "row", "named"] (SpD K mg 3 D__law_told) :=
  fn_pure Z.F__law_told sc__law_told (by decide) fun cdv A outer s H E hr =>
    (dss_cons (ds_set 3 sc__law_told.nd (n_tup (n_consA (n_pE n_str) n_nilA)))
    (dss_cons (ds_try rfl rfl (fun Wx pn xe tk => (dss_one (ds_set 3 sc__law_told.nd (de_if (n_valT (n_p1 (n_var 2))) (de_callKS tk (ok_plan_of Z) (hr.mono (by decide)) Z.g_plan_of Z.F_plan_of.kp (kb_plan_of_row_land Z) (dkw_cons (n_vE 1) (dkw_cons (n_vE 0) dkw_nil))) (de_callS tk (ok_plan_of Z) (hr.mono (by decide)) Z.g_plan_of Z.F_plan_of.kp (b_plan_of Z) (n_consA (n_vE 0) (n_consA (n_vE 1) n_nilA))))))) (HdD.cons (names_of Z.k_Refused) (sub_cons Z.k_Refused Z.m_Refused_Refused sub_nil) (fun a pn => (dss_one (ds_set 3 sc__law_told.nd (n_pE n_none)))) (HdD.cons (names_of Z.k_WardError) (sub_cons Z.k_Refused Z.m_Refused_WardError sub_nil) (fun a pn => (dss_one (ds_set 3 sc__law_told.nd (n_tup (n_consA (n_pE n_str) n_nilA))))) HdD.nil)))
    (dss_one (n_ret (n_tk 3)))))
/-! _law_right -/
theorem sc__law_right : FnScope ["land", "row", "wards", "many", "place", "due", "number", "ward"] ["land", "row"] (defScope (top 35)) := ⟨rfl, rfl, rfl, by decide +kernel, rfl, by decide +kernel, by decide +kernel⟩
theorem b__law_right (Z : Fx K mg n) : Binds K n.d__law_right ["land", "row"] [] := Z.F__law_right.bindsN fun _ _ _ _ _ _ us hl => match us, hl with | [_, _], _ => rfl
noncomputable def f__law_right_l1 : SF := (putKF 2 (binE addD (d2E (dgetE 2 (ixP (vP 1) (vP 4)) (tupE nilA)) (tupE (consA (vE 4) nilA)))) (ixP (vP 1) (vP 4)))
noncomputable def f__law_right_e1 : EF := (pE (dgetP 2 (vP 6)))
noncomputable def f__law_right_c1 : TF := (cmpT (upO neD) (d2E (callDE D__law_reached 3 (consA (vE 0) (consA (vE 7) (consA (pE (ixP (vP 7) (kP (.int 0)))) nilA)))) (p1 (vP 7))))
noncomputable def f__law_right_e2 : EF := (vE 7)
noncomputable def f__law_right : SF := (seqF (parF 2 3 (consO dicK (consO (pE (callP lenD (consP (ixP (vP 0) (kP (.int 0))) nilP))) nilO)))
    (seqF (forS (r1I (pO (consP (vP 3) nilP))) (gNameD 4) f__law_right_l1)
    (seqF (asgF (callE tupleD (consO (callE sortedLD (consO (lcF (fun ρ => liftO (freezeK 2 ρ)) (gNameD 6) yesT f__law_right_e1 [6]) nilO)) nilO)) (gNameD 5))
    (seqF (asgF (ifR (cmpT (upO eqD) (d2E (lcF (seqD (vE 5)) (gNameD 7) f__law_right_c1 f__law_right_e2 [7]) (lstE nilA))) (vE 5) (pE (kP .none))) (gNameD 5))
    (retS (callDE (D__law_alike 5) 2 (consA (lstE (consA (callDE D__law_told 3 (consA (vE 0) (consA (vE 1) (consA (pE (kP (.bool false))) nilA)))) (consA (callDE D__law_told 3 (consA (vE 0) (consA (vE 1) (consA (pE (kP (.bool true))) nilA)))) nilA))) (consA (lstE (consA (vE 5) (consA (vE 5) nilA))) nilA))))))))
noncomputable def D__law_right : List D → Res (D × Nat) := runP 8 f__law_right
theorem ok__law_right (Z : Fx K mg n) : FnOk P w K mg base CX0 8 n.a__law_right n.d__law_right ["land", "row"] (SpD K mg 2 D__law_right) :=
  fn_pure Z.F__law_right sc__law_right (by decide) fun cdv A outer s H E hr =>
    (dss_cons (ds_parT 2 3 rfl sc__law_right.nd (n_consO de_dnewK (n_consO (n_pE (n_callPB cp_len Z.b_len bt_len (n_consP (n_ix (n_var 0) n_int) n_nilP))) n_nilO)))
    (dss_cons (n_for PassesOwn.never rfl (n_r1I Z.b_range (n_pC (n_consP (n_var 3) n_nilP))) (dg_name 4 sc__law_right.nd) (dss_one (ds_dputK 2 (hr1 hr) (n_binE opd_add (n_d2E (de_dget 2 (hr1 hr) (n_ix (n_var 1) (n_var 4)) (n_tup n_nilA)) (d1_de (n_tup (n_consA (n_vE 4) n_nilA))))) (n_ix (n_var 1) (n_var 4)))))
    (dss_cons (ds_set 5 sc__law_right.nd (n_callT cd_tuple Z.b_tuple bt_tuple (n_consC (n_callB cd_sortedL Z.b_sorted bt_sorted (n_consC (de_lcK 2 (own := [("number", 6)]) rfl sc__law_right.nd (blkOk_by (by kernel_rfl)) (fun _ _ _ _ _ => (dg_name 6 sc__law_right.nd)) (fun _ _ _ _ _ => dts_nil) (fun _ _ _ _ _ => (n_pE (dp_dget 2 (hr1 hr) (n_var 6))))) n_nilC)) n_nilC)))
    (dss_cons (ds_set 5 sc__law_right.nd (de_if (n_cmpT (n_upO (opp_eq hr.units)) (n_d2E (de_lc (own := [("ward", 7)]) rfl sc__law_right.nd (di_seq (n_vE 5)) (blkOk_by (by kernel_rfl)) (fun _ _ _ _ _ => (dg_name 7 sc__law_right.nd)) (fun _ _ _ _ _ => dts_one (n_cmpT (n_upO (opp_ne hr.units)) (n_d2E (n_call (ok__law_reached Z) (hr.mono (by decide)) Z.g__law_reached Z.F__law_reached.kp (b__law_reached Z) pass0 (n_consA (n_vE 0) (n_consA (n_vE 7) (n_consA (n_pE (n_ix (n_var 7) n_int)) n_nilA)))) (n_p1 (n_var 7))))) (fun _ _ _ _ _ => (n_vE 7))) (d1_de (n_lst n_nilA)))) (n_vE 5) (n_pE n_none)))
    (dss_one (n_ret (n_call (ok__law_alike Z 5) (hr.mono (by decide)) Z.g__law_alike Z.F__law_alike.kp (b__law_alike Z) pass0 (n_consA (n_lst (n_consA (n_call (ok__law_told Z) (hr.mono (by decide)) Z.g__law_told Z.F__law_told.kp (b__law_told Z) pass0 (n_consA (n_vE 0) (n_consA (n_vE 1) (n_consA (n_pE n_bool) n_nilA)))) (n_consA (n_call (ok__law_told Z) (hr.mono (by decide)) Z.g__law_told Z.F__law_told.kp (b__law_told Z) pass0 (n_consA (n_vE 0) (n_consA (n_vE 1) (n_consA (n_pE n_bool) n_nilA)))) n_nilA))) (n_consA (n_lst (n_consA (n_vE 5) (n_consA (n_vE 5) n_nilA))) n_nilA)))))))))
/-! law -/
theorem sc_law : FnScope ["script", "spring", "turn", "land", "plan", "k", "numbers", "row", "number", "place"] ["script"] (defScope (top 36)) := ⟨rfl, rfl, rfl, by decide +kernel, rfl, by decide +kernel, by decide +kernel⟩
theorem b_law (Z : Fx K mg n) : Binds K n.d_law ["script"] [] := Z.F_law.bindsN fun _ _ _ _ _ _ us hl => match us, hl with | [_], _ => rfl
noncomputable def f_law_t1 : TF := (cmpT (upO (inD false)) (d2P (vP 8) (vP 6)))
noncomputable def f_law_w1 : SF := (asgF (pE (binP addI (vP 8) (kP (.int 1)))) (gNameD 8))
noncomputable def f_law_l1 : SF := (asgF (vE 8) (gSetD 7 (vP 9)))
noncomputable def f_law_l2 : SF := (seqF (asgF (ixEE (d2E (lstE (consA (binE (upO subI) (d2E (callIF 1 1 2 D__law_drop (consA (pE (kP (.int 30))) nilA)) (p1 (kP (.int 9))))) (consA (vE 5) (consA (binE addD (d2E (pE (negP (binP powI (kP (.int 10)) (kP (.int 40))))) (callIF 1 1 2 D__law_drop (consA (pE (kP (.int 9))) nilA)))) nilA)))) (callIF 1 1 2 D__law_drop (consA (pE (kP (.int 3))) nilA)))) (gNameD 8))
    (seqF (whileF f_law_t1 f_law_w1 fuel)
    (seqF (expS (appendF 6 (vE 8)))
    (forS (seqD (pE (ixP (vP 4) (vP 5)))) (gNameD 9) f_law_l1))))
noncomputable def f_law_e1 : EF := (callIF 1 1 2 D__law_drop (consA (pE (kP (.int 3))) nilA))
noncomputable def f_law_l3 : SF := (seqF (asgF (callIF 1 1 2 D__law_land (consA (pE (kP (.int 12))) nilA)) (gNameD 3))
    (seqF (asgF (callIF 1 1 2 D__law_plan (consA (vE 3) nilA)) (gNameD 4))
    (seqF (parF 6 7 (consO (lstE nilA) (consO (binE mulD2 (d2E (lstE (consA (pE (kP (.int 0))) nilA)) (p1 (callP lenD (consP (ixP (vP 3) (kP (.int 0))) nilP))))) nilO)))
    (seqF (forS (r1I (pO (consP (callP lenD (consP (vP 4) nilP)) nilP))) (gNameD 5) f_law_l2)
    (seqF (ifS (notT (valT (callDE D__law_right 2 (consA (vE 3) (consA (callE tupleD (pO (consP (vP 7) nilP))) nilA))))) (retS (pE (kP (.bool false)))) nilS)
    (seqF (asgF (ixEE (d2V 7 (callIF 1 1 2 D__law_drop (consA (pE (callP lenD (consP (vP 7) nilP))) nilA)))) (gSetE 7 (callIF 1 1 2 D__law_drop (consA (pE (callP lenD (consP (vP 7) nilP))) nilA))))
    (ifS (orR (notT (valT (callDE D__law_right 2 (consA (vE 3) (consA (callE tupleD (pO (consP (vP 7) nilP))) nilA))))) (notT (valT (callDE D__law_right 2 (consA (vE 3) (consA (callE tupleD (consO (lcF (seqD (vE 7)) (gNameD 9) yesT f_law_e1 [9]) nilO)) nilA)))))) (retS (pE (kP (.bool false)))) nilS)))))))
noncomputable def f_law : SF := (seqF (asgF (callDE D__law_spring 1 (consA (vE 0) nilA)) (gNameD 1))
    (seqF (forS (r1I (pO (consP (kP (.int 8)) nilP))) (gNameD 2) f_law_l3)
    (retS (pE (kP (.bool true))))))
noncomputable def D_law : List D → Res (D × Nat) := runP 10 f_law
theorem ok_law (Z : Fx K mg n) : FnOk P w K mg base CX0 9 n.a_law n.d_law ["script"] (SpD K mg 1 D_law) :=
  fn_pure Z.F_law sc_law (by decide) fun cdv A outer s H E hr =>
    (dss_cons (ds_set 1 sc_law.nd (n_call (ok__law_spring Z) (hr.mono (by decide)) Z.g__law_spring Z.F__law_spring.kp (b__law_spring Z) pass0 (n_consA (n_vE 0) n_nilA)))
    (dss_cons (n_for PassesOwn.never rfl (n_r1I Z.b_range (n_pC (n_consP n_int n_nilP))) (dg_name 2 sc_law.nd) (dss_cons (ds_set 3 sc_law.nd (de_callI 1 (ok__law_land Z) (hr.mono (by decide)) Z.g__law_land Z.F__law_land.kp (b__law_land Z) pass0 (n_consA (n_pE n_int) n_nilA)))
    (dss_cons (ds_set 4 sc_law.nd (de_callI 1 (ok__law_plan Z) (hr.mono (by decide)) Z.g__law_plan Z.F__law_plan.kp (b__law_plan Z) pass0 (n_consA (n_vE 3) n_nilA)))
    (dss_cons (ds_par 6 7 rfl sc_law.nd (n_consO (n_lst n_nilA) (n_consO (n_binE opd_mul2 (n_d2E (n_lst (n_consA (n_pE n_int) n_nilA)) (n_p1 (n_callPB cp_len Z.b_len bt_len (n_consP (n_ix (n_var 3) n_int) n_nilP))))) n_nilO)) (by rfl))
    (dss_cons (n_for PassesOwn.never rfl (n_r1I Z.b_range (n_pC (n_consP (n_callPB cp_len Z.b_len bt_len (n_consP (n_var 4) n_nilP)) n_nilP))) (dg_name 5 sc_law.nd) (dss_cons (ds_set 8 sc_law.nd (n_ixE (n_d2E (n_lst (n_consA (n_binE (n_upO opp_sub) (n_d2E (de_callI 1 (ok__law_drop Z) (hr.mono (by decide)) Z.g__law_drop Z.F__law_drop.kp (b__law_drop Z) pass0 (n_consA (n_pE n_int) n_nilA)) (n_p1 n_int))) (n_consA (n_vE 5) (n_consA (n_binE opd_add (n_d2E (n_pE (n_neg (n_bin opp_pow n_int n_int))) (d1_de (de_callI 1 (ok__law_drop Z) (hr.mono (by decide)) Z.g__law_drop Z.F__law_drop.kp (b__law_drop Z) pass0 (n_consA (n_pE n_int) n_nilA))))) n_nilA)))) (d1_de (de_callI 1 (ok__law_drop Z) (hr.mono (by decide)) Z.g__law_drop Z.F__law_drop.kp (b__law_drop Z) pass0 (n_consA (n_pE n_int) n_nilA))))))
    (dss_cons (n_while PassesOwn.never (n_cmpT (n_upO (opp_in (hr65 hr))) (n_d2P (n_var 8) (n_var 6))) (dss_one (ds_set 8 sc_law.nd (n_pE (n_bin opp_add (n_var 8) n_int)))))
    (dss_cons (n_exp (de_append 6 (n_vE 8)))
    (dss_one (n_for PassesOwn.never rfl (di_seq (n_pE (n_ix (n_var 4) (n_var 5)))) (dg_name 9 sc_law.nd) (dss_one (ds_asg (n_vE 8) (dg_sub 7 (n_var 9))))))))))
    (dss_cons (ds_if (n_notT (n_valT (d1_de (n_call (ok__law_right Z) (hr.mono (by decide)) Z.g__law_right Z.F__law_right.kp (b__law_right Z) pass0 (n_consA (n_vE 3) (n_consA (n_callT cd_tuple Z.b_tuple bt_tuple (n_pC (n_consP (n_var 7) n_nilP))) n_nilA)))))) (dss_one (n_ret (n_pE n_bool))) n_nilS)
    (dss_cons (ds_asg (n_ixE (n_d2V 7 (de_callI 1 (ok__law_drop Z) (hr.mono (by decide)) Z.g__law_drop Z.F__law_drop.kp (b__law_drop Z) pass0 (n_consA (n_pE (n_callPB cp_len Z.b_len bt_len (n_consP (n_var 7) n_nilP))) n_nilA)))) (dg_subE 7 (de_callI 1 (ok__law_drop Z) (hr.mono (by decide)) Z.g__law_drop Z.F__law_drop.kp (b__law_drop Z) pass0 (n_consA (n_pE (n_callPB cp_len Z.b_len bt_len (n_consP (n_var 7) n_nilP))) n_nilA))))
    (dss_one (ds_if (dt_pw (dw_or (n_notT (n_valT (d1_de (n_call (ok__law_right Z) (hr.mono (by decide)) Z.g__law_right Z.F__law_right.kp (b__law_right Z) pass0 (n_consA (n_vE 3) (n_consA (n_callT cd_tuple Z.b_tuple bt_tuple (n_pC (n_consP (n_var 7) n_nilP))) n_nilA)))))) (dw_or1 (n_notT (n_valT (d1_de (n_call (ok__law_right Z) (hr.mono (by decide)) Z.g__law_right Z.F__law_right.kp (b__law_right Z) pass0 (n_consA (n_vE 3) (n_consA (n_callT cd_tuple Z.b_tuple bt_tuple (n_consC (de_lc (own := [("place", 9)]) rfl sc_law.nd (di_seq (n_vE 7)) (blkOk_by (by kernel_rfl)) (fun _ _ _ _ _ => (dg_name 9 sc_law.nd)) (fun _ _ _ _ _ => dts_nil) (fun _ _ _ _ _ => (de_callI 1 (ok__law_drop Z) (hr.mono (by decide)) Z.g__law_drop Z.F__law_drop.kp (b__law_drop Z) pass0 (n_consA (n_pE n_int) n_nilA)))) n_nilC)) n_nilA))))))))) (dss_one (n_ret (n_pE n_bool))) n_nilS)))))))))
    (dss_one (n_ret (n_pE n_bool)))))
end
end Q

/-! the draws of the laws k01 to k10, their comparison -/
namespace Q
open PySem PySem.Spec PyProof.Rows L2 DL TL
theorem callDE_of {g : List D → Res (D × Nat)} {n : Nat} {f : AF} {ρ ρ1 : Env'} {ds : List D} {d : D} {m : Nat} (h : f ρ = .ok (ds, ρ1)) (hl : ds.length = n) (hg : g ds = .ok (d, m)) : callDE g n f ρ = .ok (d, m, ρ1) := by
  unfold callDE
  rw [h, bind_ok, if_pos hl, hg]
  rfl
theorem addD_lists (xs ys : List D) {n m : Nat} (hn : n ≤ 1) (hm : m ≤ 1) (hl : xs.length + ys.length ≤ 16777216) : addD (.list xs, n) (.list ys, m) = some (.list (xs ++ ys), 1) := by
  simp [addD, addI, iiD, catT, catL, hn, hm, hl]
theorem eqD_self {n : Nat} {d : D} (h : Lay n d) (hn : n ≤ 64) : eqD d d = some (.bool true) := by rw [eqD_lay h h hn hn, eqv_self h]
theorem neD_self {n : Nat} {d : D} (h : Lay n d) (hn : n ≤ 64) : neD d d = some (.bool false) := by rw [neD_lay h h hn hn, eqv_self h]; rfl
def kindsD (d : D) : List Bool := [isT "bool" d, isT "int" d, isT "str" d, isT "tuple" d, isT "list" d, isNone d]
theorem sp_kinds (d : D) (h : noDictTop d = true) : D__law_kinds [d] = .ok (.list ((kindsD d).map .bool), 1) := by
  have hs : isD d .none = some (.bool (isNone d)) := by cases d <;> rfl
  have q := addD_lists [.bool (isT "bool" d), .bool (isT "int" d), .bool (isT "str" d)] [.bool (isT "tuple" d), .bool (isT "list" d), .bool (isNone d)] (n := 0) (m := 1) (by omega) (by omega) (by simp)
  have b1 : f__law_kinds [some (d, 0), none] = .ok (.rt (.list ((kindsD d).map .bool)) 1, [some (d, 0), some (.list [.bool (isT "bool" d), .bool (isT "int" d), .bool (isT "str" d)], 0)]) := by
    simp [-binE, f__law_kinds, h]
    have b2 := binE_of (g := addD) (f := d2E (vE 1) (lstE (consA (pE (isiP "tuple" (vP 0))) (consA (pE (isiP "list" (vP 0))) (consA (pE (binP isD (vP 0) (kP .none))) nilA))))) (ρ := [some (d, 0), some (.list [.bool (isT "bool" d), .bool (isT "int" d), .bool (isT "str" d)], 1)]) (ρ1 := [some (d, 0), some (.list [.bool (isT "bool" d), .bool (isT "int" d), .bool (isT "str" d)], 0)]) (by simp [h, hs]) q
    rw [b2]
    rfl
  show endP (f__law_kinds _) = _
  exact congrArg endP b1
/-- what the laws compare: ints, truths, lists and tuples of these -/
inductive Good : Nat → D → Prop
  | int {m : Nat} (i : Int) : Good m (.int i)
  | bool {m : Nat} (b : Bool) : Good m (.bool b)
  | non {m : Nat} : Good m .none
  | list {m : Nat} {ds : List D} : (∀ d ∈ ds, Good m d) → ds.length ≤ 1000 → Good (m + 1) (.list ds)
  | tuple {m : Nat} {ds : List D} : (∀ d ∈ ds, Good m d) → ds.length ≤ 1000 → Good (m + 1) (.tuple ds)
theorem Good.lay : ∀ {m : Nat} {d : D}, Good m d → Lay m d
  | _, _, .int i => lay_int i
  | _, _, .bool b => lay_bool b
  | _, _, .non => lay_none
  | _, _, .list h _ => lay_list fun d hd => (h d hd).lay
  | _, _, .tuple h _ => lay_tuple fun d hd => (h d hd).lay
theorem Good.top {m : Nat} {d : D} (h : Good m d) : noDictTop d = true := by cases h <;> rfl
theorem kinds_lay (d : D) : Lay 1 (.list ((kindsD d).map .bool)) := lay_list fun x hx => by
  obtain ⟨b, _, rfl⟩ := List.mem_map.mp hx
  exact lay_bool b
theorem alike_kinds {m : Nat} {d : D} (h : Good m d) (x : Option (D × Nat)) : cmpT (upO neD) (d2E (callDE D__law_kinds 1 (consA (vE 0) nilA)) (callDE D__law_kinds 1 (consA (vE 1) nilA))) [some (d, 0), some (d, 0), x] = .ok (false, [some (d, 0), some (d, 0), x]) := by
  have k1 : callDE D__law_kinds 1 (consA (vE 0) nilA) [some (d, 0), some (d, 0), x] = .ok (.list ((kindsD d).map .bool), 1, [some (d, 0), some (d, 0), x]) := callDE_of (ds := [d]) (by simp) rfl (sp_kinds d h.top)
  have k2 : callDE D__law_kinds 1 (consA (vE 1) nilA) [some (d, 0), some (d, 0), x] = .ok (.list ((kindsD d).map .bool), 1, [some (d, 0), some (d, 0), x]) := callDE_of (ds := [d]) (by simp) rfl (sp_kinds d h.top)
  have k3 : d2E (callDE D__law_kinds 1 (consA (vE 0) nilA)) (callDE D__law_kinds 1 (consA (vE 1) nilA)) [some (d, 0), some (d, 0), x] = .ok ((.list ((kindsD d).map .bool), 1), (.list ((kindsD d).map .bool), 1), [some (d, 0), some (d, 0), x]) := by
    show (callDE D__law_kinds 1 (consA (vE 0) nilA) _ >>= fun x => callDE D__law_kinds 1 (consA (vE 1) nilA) x.2.2 >>= fun y => Res.ok ((x.1, x.2.1), (y.1, y.2.1), y.2.2)) = _
    rw [k1, bind_ok, k2]
    rfl
  have k4 := neD_self (kinds_lay d) (by omega)
  show (d2E (callDE D__law_kinds 1 (consA (vE 0) nilA)) (callDE D__law_kinds 1 (consA (vE 1) nilA)) _ >>= fun s => liftO ((upO neD s.1 s.2.1).bind fun d => isB d.1) >>= fun k => Res.ok (k, s.2.2)) = _
  rw [k3, bind_ok]
  simp only [upO, k4]
  rfl
theorem seqF_skip {f g : SF} {ρ ρ1 : Env'} (h : f ρ = .ok (.nx, ρ1)) : seqF f g ρ = g ρ1 := by
  rw [seqF_eq, h]
  rfl
theorem seqF_rt {f g : SF} {ρ ρ1 : Env'} {d : D} {n : Nat} (h : f ρ = .ok (.rt d n, ρ1)) : seqF f g ρ = .ok (.rt d n, ρ1) := by
  rw [seqF_eq, h]
  rfl
theorem ifS_no {c : TF} {f g : SF} {ρ ρ1 : Env'} (h : c ρ = .ok (false, ρ1)) : ifS c f g ρ = g ρ1 := by
  rw [ifS_eq, h]
  rfl
theorem ifS_yes {c : TF} {f g : SF} {ρ ρ1 : Env'} (h : c ρ = .ok (true, ρ1)) : ifS c f g ρ = f ρ1 := by
  rw [ifS_eq, h]
  rfl
theorem sp_alike_seq {m : Nat} (ih : ∀ d : D, Good m d → D__law_alike (m + 1) [d, d] = .ok (.bool true, 0)) {ds : List D} {d : D} (hd : d = .list ds ∨ d = .tuple ds) (hg : Good (m + 1) d) (hi : ∀ x ∈ ds, Good m x) (hl : ds.length ≤ 1000) : D__law_alike (m + 2) [d, d] = .ok (.bool true, 0) := by
  have le : ∀ n : Nat, lenD [(d, n)] = some (.int ds.length) := fun n => by rcases hd with rfl | rfl <;> rfl
  have ix : ∀ (k : Nat) (x : D), ds[k]? = some x → ixD (d, 0) (.int (k : Nat)) = some (x, 0) := fun k x hx => by
    rcases hd with rfl | rfl
    · exact ixLn (n := 0) hx
    · exact ixTn hx
  obtain ⟨ρ', e1, rfl⟩ := compF_all (g := gNameD 2) (f := f__law_alike_e1 (D__law_alike (m + 1))) (vs := [2]) (fun ρ => ρ = [some (d, 0), some (d, 0), none]) PyData.int (fun _ => .bool true) (xs := rgI ds.length) (ρ := [some (d, 0), some (d, 0), none]) rfl (fun i hi' ρ hρ => by
    subst hρ
    obtain ⟨a, b⟩ := mem_rgI.mp hi'
    obtain ⟨k, rfl⟩ : ∃ k : Nat, i = (k : Int) := ⟨i.toNat, by omega⟩
    have kl : k < ds.length := by omega
    have hx := ix k ds[k] (List.getElem?_eq_getElem kl)
    have q : f__law_alike_e1 (D__law_alike (m + 1)) [some (d, 0), some (d, 0), some (.int (k : Nat), 0)] = .ok (.bool true, 0, [some (d, 0), some (d, 0), some (.int (k : Nat), 0)]) := by
      unfold f__law_alike_e1
      refine callDE_of (ds := [ds[k], ds[k]]) ?_ rfl (ih _ (hi _ (List.getElem_mem kl)))
      simp [hx]
    exact ⟨[some (d, 0), some (d, 0), some (.int (k : Nat), 0)], 0, [some (d, 0), some (d, 0), some (.int (k : Nat), 0)], by simp, q, by simp [wipeD]⟩)
  have q := range1_int (ds.length : Int) 0 (by omega) (by omega)
  rw [Int.toNat_natCast, rgI_rng] at q
  have e2 := lcF_eq (fi := r1I (pO (consP (callP lenD (consP (vP 1) nilP)) nilP))) (ρ := [some (d, 0), some (d, 0), none]) (ρ1 := [some (d, 0), some (d, 0), none]) (ds := (rgI ds.length).map .int)
    (by exact r1I_of (xs := [(.int (ds.length : Int), 0)]) (by simp [le]) q) (by simp [rgI_len]; omega) (show compF _ yesT (f__law_alike_e1 (D__law_alike (m + 1))) [2] _ (wipeD _ [2]) = _ from e1)
  have a1 : allD [(.list ((rgI ds.length).map fun _ => PyData.bool true), 1)] = some (.bool true) := by
    have := all_map ((rgI ds.length).map fun _ => true) 1
    rw [List.map_map] at this
    rw [show ((rgI ds.length).map fun _ => PyData.bool true) = (rgI ds.length).map (PyData.bool ∘ fun _ => true) from rfl, this]
    simp
  have b1 : callE (upC allD) (consO (lcF (r1I (pO (consP (callP lenD (consP (vP 1) nilP)) nilP))) (gNameD 2) yesT (f__law_alike_e1 (D__law_alike (m + 1))) [2]) nilO) [some (d, 0), some (d, 0), none] = .ok (.bool true, 0, [some (d, 0), some (d, 0), none]) := by
    refine callE_of (a := [(.list ((rgI ds.length).map fun _ => PyData.bool true), 1)]) (c := (.bool true, 0)) ?_ ?_
    · show (lcF _ _ _ _ _ _ >>= fun x => nilO x.2.2 >>= fun y => Res.ok ((x.1, x.2.1) :: y.1, y.2)) = _
      rw [e2]
      rfl
    · simp [a1]
  have t1 : valT (isi2E "tuple" "list" (vP 1)) [some (d, 0), some (d, 0), none] = .ok (true, [some (d, 0), some (d, 0), none]) := by
    rcases hd with rfl | rfl <;> simp [isT, isTN, tyN]
  have v1 : andV (p1 (binP eqD (callP lenD (consP (vP 0) nilP)) (callP lenD (consP (vP 1) nilP)))) (callE (upC allD) (consO (lcF (r1I (pO (consP (callP lenD (consP (vP 1) nilP)) nilP))) (gNameD 2) yesT (f__law_alike_e1 (D__law_alike (m + 1))) [2]) nilO)) [some (d, 0), some (d, 0), none] = .ok (.bool true, 0, [some (d, 0), some (d, 0), none]) := by
    have w1 : p1 (binP eqD (callP lenD (consP (vP 0) nilP)) (callP lenD (consP (vP 1) nilP))) [some (d, 0), some (d, 0), none] = .ok (.bool true, 0, [some (d, 0), some (d, 0), none]) := by simp [le]
    rw [andV_eq, w1, bind_ok]
    simp only [isB_bool, liftO_some, bind_ok, if_true]
    exact b1
  have fin : f__law_alike (D__law_alike (m + 1)) [some (d, 0), some (d, 0), none] = .ok (.rt (.bool true) 0, [some (d, 0), some (d, 0), none]) := by
    unfold f__law_alike
    rw [seqF_skip ((ifS_no (alike_kinds hg none)).trans rfl)]
    refine seqF_rt ((ifS_yes t1).trans ?_)
    show (andV _ _ _ >>= fun x => Res.ok (Fl.rt x.1 x.2.1, x.2.2)) = _
    rw [v1]
    rfl
  show endP (f__law_alike (D__law_alike (m + 1)) _) = _
  exact congrArg endP fin
theorem sp_alike_leaf {m : Nat} {d : D} (hg : Good m d) (ht : isT "tuple" d = false) (hl : isT "list" d = false) (hm : m ≤ 60) (k : Nat) : D__law_alike (k + 1) [d, d] = .ok (.bool true, 0) := by
  have t1 : valT (isi2E "tuple" "list" (vP 1)) [some (d, 0), some (d, 0), none] = .ok (false, [some (d, 0), some (d, 0), none]) := by
    simp [ht, hl, hg.top]
  have fin : f__law_alike (D__law_alike k) [some (d, 0), some (d, 0), none] = .ok (.rt (.bool true) 0, [some (d, 0), some (d, 0), none]) := by
    unfold f__law_alike
    rw [seqF_skip ((ifS_no (alike_kinds hg none)).trans rfl), seqF_skip ((ifS_no t1).trans rfl)]
    have := eqD_self hg.lay (by omega)
    simp [this]
  show endP (f__law_alike (D__law_alike k) _) = _
  exact congrArg endP fin
theorem sp_alike : ∀ (m : Nat) (d : D), Good m d → m ≤ 60 → D__law_alike (m + 1) [d, d] = .ok (.bool true, 0)
  | m, _, .int i, hm => sp_alike_leaf (.int i : Good m _) (by simp [isT, isTN, tyN]) (by simp [isT, isTN, tyN]) hm m
  | m, _, .bool i, hm => sp_alike_leaf (.bool i : Good m _) (by simp [isT, isTN, tyN]) (by simp [isT, isTN, tyN]) hm m
  | m, _, .non, hm => sp_alike_leaf (.non : Good m _) (by simp [isT, isTN, tyN]) (by simp [isT, isTN, tyN]) hm m
  | m + 1, _, .list h l, hm => sp_alike_seq (fun d hd => sp_alike m d hd (by omega)) (.inl rfl) (.list h l) h l
  | m + 1, _, .tuple h l, hm => sp_alike_seq (fun d hd => sp_alike m d hd (by omega)) (.inr rfl) (.tuple h l) h l
theorem popF_rfl (i : Nat) (f : EF) (ρ : Env') : popF i f ρ = (if isOwnL (getS ρ i) = true then f ρ >>= fun y => liftO ((getS y.2.2 i).bind fun x => (isI y.1).bind fun j => popD x j) >>= fun z => .ok (z.1, 0, y.2.2.set i (some z.2)) else .stuck) := rfl
theorem popD_0 (d : D) (ds : List D) (h : ds.length < 1000000) : popD (.list (d :: ds), 1) 0 = some (d, (.list ds, 1)) := by
  have h' : ds.length + 1 ≤ 16777216 := by omega
  simp [popD, ixN, h']
def springD (g : List Int) (x y : Int) : D := .list [.list (g.map .int), .int x, .int y]
/-- the zeros at the front go -/
theorem drop_zeros (m : Int) (g : List Int) (hg : g.length ≤ 1000) : ∃ g', g'.length ≤ g.length ∧ (g' = [] ∨ ∃ a r, g' = a :: r) ∧ f2__law_drop (env1 (g.map .int) m) = .ok (.nx, env1 (g'.map .int) m) := by
  obtain ⟨ρ', e, g', hl, rfl⟩ := whileF_inv (c := f__law_drop_t1) (b := f__law_drop_w1)
    (fun ρ => ∃ g' : List Int, g'.length ≤ g.length ∧ ρ = env1 (g'.map .int) m) (fun ρ => ∃ g' : List Int, g'.length ≤ g.length ∧ ρ = env1 (g'.map .int) m)
    (fun ρ => match getS ρ 2 with | some (.list ds, _) => ds.length | _ => 0)
    (fun ρ hI => by
      obtain ⟨g', hl, rfl⟩ := hI
      have q0 := ne_nilL (n := 0) (lay_ints g') (by omega)
      cases g' with
      | nil =>
        have q0 : neD (.list []) (.list []) = some (.bool false) := q0
        exact ⟨false, env1 [] m, by simp [f__law_drop_t1, env1, q0], fun _ => ⟨[], by simp, rfl⟩, fun q => (by cases q)⟩
      | cons a r =>
        have q0 : neD (.list (.int a :: r.map .int)) (.list []) = some (.bool true) := q0
        by_cases ha : a = 0
        · subst ha
          have hr : r.length + 1 ≤ g.length := hl
          have pp := popD_0 (.int 0) (r.map .int) (by rw [List.length_map]; omega)
          refine ⟨true, env1 (.int 0 :: r.map .int) m, by simp [f__law_drop_t1, env1, q0], fun q => (by cases q), fun _ => ⟨env1 (r.map .int) m, .inl ?_, ⟨r, by omega, rfl⟩, by simp [env1]⟩⟩
          simp [f__law_drop_w1, popF_rfl, env1, pp]
        · exact ⟨false, env1 (.int a :: r.map .int) m, by simp [f__law_drop_t1, env1, q0, ha], fun _ => ⟨a :: r, hl, rfl⟩, fun q => (by cases q)⟩)
    (n := fuel) (ρ := env1 (g.map .int) m) ⟨g, Nat.le_refl _, rfl⟩ (by rw [fuel_eq]; simp [env1]; omega)
  refine ⟨g', hl, ?_, e⟩
  cases g' with
  | nil => exact .inl rfl
  | cons a r => exact .inr ⟨a, r, rfl⟩
theorem mulZ_of {i j : Int} {a b : Nat} (ha : i.natAbs < 2 ^ a) (hb : j.natAbs < 2 ^ b) (h0 : 0 < a) (h1 : 0 < b) (h : a + b ≤ 1000000) : CMulZ i j := by
  have q : i.natAbs.log2 + j.natAbs.log2 < 1000000 := wide_mul ha hb h0 h1 h
  show i.natAbs.log2 + j.natAbs.log2 < 100000000
  omega
@[simp] theorem intD_int (i : Int) (n : Nat) : intD [(.int i, n)] = some (.int i) := rfl
theorem f4_eq (g : List D) (x y m : Int) : intO (f4__law_drop (env2 g x y m)) = .ok (y + 1) := by
  simp [f4__law_drop, env2, intO]
theorem f5_eq (g : List D) (x y m : Int) (hx : 0 ≤ x ∧ x < 2 ^ 61) (hy : 0 ≤ y ∧ y < 2 ^ 61) : ∃ x', 0 ≤ x' ∧ x' < 2 ^ 61 ∧ intO (f5__law_drop (env2 g x y m)) = .ok x' := by
  have p1 := mulI_int x 6364136223846793005 (mulZ_of (a := 61) (b := 63) (by omega) (by decide) (by omega) (by omega) (by omega))
  have p2 := mulI_int y 1442695040888963407 (mulZ_of (a := 61) (b := 63) (by omega) (by decide) (by omega) (by omega) (by omega))
  have p3 := modI_int (x * 6364136223846793005 + y * 1442695040888963407) 2305843009213693951 (by omega)
  refine ⟨(x * 6364136223846793005 + y * 1442695040888963407) % 2305843009213693951, by omega, by omega, ?_⟩
  simp [f5__law_drop, env2, p1, p2, p3, intO]
theorem f6_eq (g : List D) (x y m : Int) (hx : 0 ≤ x ∧ x < 2 ^ 61) (hm : 1 ≤ m) : ∃ r, 0 ≤ r ∧ r < m ∧ intO (f6__law_drop (env2 g x y m)) = .ok r := by
  have p1 := mulI_int x x (mulZ_of (a := 61) (b := 61) (by omega) (by omega) (by omega) (by omega) (by omega))
  have p2 := modI_int (x * x) 2305843009213693921 (by omega)
  have p3 := fdivI_int (x * x % 2305843009213693921) 1048576 (by constructor <;> omega)
  have p4 := modI_int (x * x % 2305843009213693921 / 1048576) m (by omega)
  refine ⟨x * x % 2305843009213693921 / 1048576 % m, Int.emod_nonneg _ (by omega), Int.emod_lt_of_pos _ (by omega), ?_⟩
  simp [f6__law_drop, env2, p1, p2, p3, p4, intO]
theorem gSetD_rfl (i : Nat) (fi : PF) (d : D) (n : Nat) (ρ : Env') : gSetD i fi d n ρ = (liftO ((getS ρ i).bind fun x => (fi ρ).bind fun k => (isI k.1).bind fun j => setD x j (d, n)) >>= fun x => .ok (ρ.set i (some x))) := rfl
theorem setD_0 (d e : D) (ds : List D) (n : Nat) : setD (.list (d :: ds), 1) 0 (e, n) = some (.list (e :: ds), 1) := by
  simp [setD, ixN]
theorem f3_nil (m : Int) : f3__law_drop (env1 [] m) = .ok (.nx, env1 [] m) := by
  have q0 : neD (.list []) (.list []) = some (.bool false) := ne_nilL (n := 0) (ds := []) (by simp) (by omega)
  simp [f3__law_drop, env1, q0]
theorem f3_cons (a m : Int) (r : List Int) (hm : 1 ≤ m ∧ m < 1073741824) : f3__law_drop (env1 ((a :: r).map .int) m) = .ok (.rt (.int (a % m)) 0, [none, some (.int m, 0), some (.list ((a / m :: r).map .int), 1), none]) := by
  have q0 : neD (.list (.int a :: r.map .int)) (.list []) = some (.bool true) := ne_nilL (n := 0) (lay_ints (a :: r)) (by omega)
  have p1 := modI_int a m (by omega)
  have p2 := fdivI_int a m ⟨by omega, by omega⟩
  have p3 := setD_0 (.int a) (.int (a / m)) (r.map .int) 0
  simp [f3__law_drop, env1, q0, p1, p2, gSetD_rfl, p3]
theorem aliasA_eq (g : List Int) (x y m : Int) : aliasA [springD g x y, .int m] = some (g.map .int, x, y, m) := rfl
/-- a draw -/
theorem sp_drop (g : List Int) (x y m : Int) (hg : g.length ≤ 1000) (hx : 0 ≤ x ∧ x < 2 ^ 61) (hy : 0 ≤ y ∧ y < 2 ^ 60) (hm : 1 ≤ m ∧ m < 1073741824) :
    ∃ r g' x' y', (0 ≤ r ∧ r < m) ∧ g'.length ≤ 1000 ∧ (0 ≤ x' ∧ x' < 2 ^ 61) ∧ (y ≤ y' ∧ y' ≤ y + 1) ∧ D__law_drop [springD g x y, .int m] = .ok ((.int r, 0), springD g' x' y') := by
  obtain ⟨g', hl, hc, e⟩ := drop_zeros m g hg
  rcases hc with rfl | ⟨a, r, rfl⟩
  · obtain ⟨x', a1, a2, e5⟩ := f5_eq [] x (y + 1) m hx (by omega)
    obtain ⟨r, b1, b2, e6⟩ := f6_eq [] x' (y + 1) m ⟨a1, a2⟩ (by omega)
    refine ⟨r, [], x', y + 1, ⟨b1, b2⟩, by simp, ⟨a1, a2⟩, by omega, ?_⟩
    have e : f2__law_drop (env1 (g.map .int) m) = .ok (.nx, env1 [] m) := e
    unfold D__law_drop aliasF
    rw [aliasA_eq]
    dsimp only
    rw [e, bind_ok]
    dsimp only
    rw [f3_nil, bind_ok]
    have gr : greatOf (env1 [] m) = .ok [] := rfl
    rw [gr, bind_ok]
    dsimp only
    rw [f4_eq, bind_ok, e5, bind_ok, e6, bind_ok]
    rfl
  · refine ⟨a % m, a / m :: r, x, y, ⟨Int.emod_nonneg _ (by omega), Int.emod_lt_of_pos _ (by omega)⟩, by simp at hl ⊢; omega, hx, by omega, ?_⟩
    unfold D__law_drop aliasF
    rw [aliasA_eq]
    dsimp only
    rw [e, bind_ok]
    dsimp only
    rw [f3_cons a m r hm, bind_ok]
    rfl
/-- the well that is drawn from, behind c draws at most -/
def Spr (c : Nat) (s : D) : Prop := ∃ g x y, s = springD g x y ∧ g.length ≤ 1000 ∧ (0 ≤ x ∧ x < 2 ^ 61) ∧ (0 ≤ y ∧ y ≤ c)
theorem Spr.up {c c' : Nat} {s : D} (h : Spr c s) (k : c ≤ c') : Spr c' s := by
  obtain ⟨g, x, y, e, h1, h2, h3⟩ := h
  exact ⟨g, x, y, e, h1, h2, h3.1, by omega⟩
theorem callIF_of {i n m : Nat} {g : List D → Res ((D × Nat) × D)} {fa : AF} {ρ ρ1 : Env'} {s s' d : D} {k : Nat} {x0 : D × Nat} {ds : List D} (h0 : getS ρ i = some x0) (hf : fa ρ = .ok (ds, ρ1)) (h1 : getS ρ1 i = some (s, m)) (hl : ds.length = n) (hg : g (s :: ds) = .ok ((d, k), s')) :
    callIF i n m g fa ρ = .ok (d, k, ρ1.set i (some (s', m))) := by
  show (liftO (getS ρ i) >>= fun _ => fa ρ >>= fun r => liftO (getS r.2 i) >>= fun x => if x.2 = m ∧ r.1.length = n then endI i m r.2 (g (x.1 :: r.1)) else .stuck) = _
  rw [h0, liftO_some, bind_ok, hf, bind_ok, h1, liftO_some, bind_ok, if_pos ⟨rfl, hl⟩, hg]
  rfl
theorem drop_call {c : Nat} {s : D} (hs : Spr c s) (hc : c < 2 ^ 59) {m : Int} (hm : 1 ≤ m ∧ m < 1073741824) :
    ∃ r s', (0 ≤ r ∧ r < m) ∧ Spr (c + 1) s' ∧ ∀ (i : Nat) (fa : AF) (ρ ρ1 : Env') (x0 : D × Nat), getS ρ i = some x0 → fa ρ = .ok ([.int m], ρ1) → getS ρ1 i = some (s, 2) → callIF i 1 2 D__law_drop fa ρ = .ok (.int r, 0, ρ1.set i (some (s', 2))) := by
  obtain ⟨g, x, y, rfl, h1, h2, h3⟩ := hs
  obtain ⟨r, g', x', y', a1, a2, a3, a4, e⟩ := sp_drop g x y m h1 h2 ⟨h3.1, by omega⟩ hm
  exact ⟨r, _, a1, ⟨g', x', y', rfl, a2, a3, by omega, by omega⟩, fun i fa ρ ρ1 x0 q0 q1 q2 => callIF_of q0 q1 q2 rfl e⟩
theorem pow18 : powI (.int 10) (.int 18) = some (.int 1000000000000000000) := by
  have h : CPow 10 18 := ⟨by decide, by decide, by decide⟩
  simp [powI, iiD, h]
theorem bits_mul {z j : Int} (h : Builtin.Int.intBits z ≤ 1048576) (hj : j.natAbs.log2 ≤ 1000) : CMulZ z j := by
  show z.natAbs.log2 + j.natAbs.log2 < 100000000
  have : z.natAbs.log2 ≤ Builtin.Int.intBits z := by
    unfold Builtin.Int.intBits
    split
    · rename_i q
      have q : z = 0 := by simpa using q
      subst q
      decide
    · omega
  omega
theorem sp_spring (ns : List Int) (hl : ns.length ≤ 63) (hb : ∀ z ∈ ns, Builtin.Int.intBits z ≤ 1048576) : ∃ s, Spr 0 s ∧ D__law_spring [.list (ns.map .int)] = .ok (s, 2) := by
  obtain ⟨ρ', e1, rfl⟩ := compF_map (g := gNameD 2) (c := f__law_spring_c1) (f := f__law_spring_e1) (vs := [2]) (fun ρ => ρ = [some (.list (ns.map .int), 0), none, none, none]) PyData.int (fun z => decide (1000000000000000000 ≤ z)) (fun z => .int (z - 1000000000000000000)) (xs := ns) (ρ := [some (.list (ns.map .int), 0), none, none, none]) rfl (fun z hz ρ hρ => by
    subst hρ
    exact ⟨[some (.list (ns.map .int), 0), none, some (.int z, 0), none], [some (.list (ns.map .int), 0), none, some (.int z, 0), none], by simp, by simp [f__law_spring_c1, pow18], fun _ => by simp [wipeD], fun _ => ⟨0, [some (.list (ns.map .int), 0), none, some (.int z, 0), none], by simp [f__law_spring_e1, pow18], by simp [wipeD]⟩⟩)
  have e2 := lcF_eq (fi := seqD (vE 0)) (ρ := [some (.list (ns.map .int), 0), none, none, none]) (ρ1 := [some (.list (ns.map .int), 0), none, none, none]) (ds := ns.map .int) (by simp) (by simp; omega) (show compF _ f__law_spring_c1 f__law_spring_e1 [2] _ (wipeD _ [2]) = _ from e1)
  have eg : (ns.filter fun z => decide (1000000000000000000 ≤ z)).map (fun z => PyData.int (z - 1000000000000000000)) = ((ns.filter fun z => decide (1000000000000000000 ≤ z)).map fun z => z - 1000000000000000000).map .int := by rw [List.map_map]; rfl
  rw [eg] at e2
  have lg : ((ns.filter fun z => decide (1000000000000000000 ≤ z)).map fun z => z - 1000000000000000000).length ≤ 1000 := by
    have := List.length_filter_le (fun z => decide (1000000000000000000 ≤ z)) ns
    rw [List.length_map]
    omega
  generalize hG : ((ns.filter fun z => decide (1000000000000000000 ≤ z)).map fun z => z - 1000000000000000000) = G at e2 lg
  obtain ⟨ρ', e3, x, z, hx, hρ⟩ := forF_inv (g := gNameD 2) (b := f__law_spring_l1) (I := fun _ ρ => ∃ (x : Int) (z : Option (D × Nat)), (0 ≤ x ∧ x < 2 ^ 61) ∧ ρ = [some (.list (ns.map .int), 0), some (.list (G.map .int), 1), z, some (.int x, 0)]) (ds := ns.map .int) (k := 0) (ρ := [some (.list (ns.map .int), 0), some (.list (G.map .int), 1), none, some (.int (15485863 + 2 * ns.length), 0)]) ⟨15485863 + 2 * ns.length, none, by omega, rfl⟩ (fun i d ρ hd hI => by
    obtain ⟨x, z, hx, rfl⟩ := hI
    obtain ⟨v, hv, rfl⟩ := map_get hd
    have p1 := mulI_int x 982451653 (mulZ_of (a := 61) (b := 30) (by omega) (by decide) (by omega) (by omega) (by omega))
    have p2 := mulI_int v 49979687 (bits_mul (hb v (List.mem_of_getElem? hv)) (by decide))
    have p3 := modI_int (x * 982451653 + v * 49979687 + 32452843) 2305843009213693951 (by omega)
    refine ⟨[some (.list (ns.map .int), 0), some (.list (G.map .int), 1), some (.int v, 0), some (.int x, 0)], [some (.list (ns.map .int), 0), some (.list (G.map .int), 1), some (.int v, 0), some (.int ((x * 982451653 + v * 49979687 + 32452843) % 2305843009213693951), 0)], by simp, .inl ?_, _, _, by omega, rfl⟩
    simp [f__law_spring_l1, p1, p2, p3])
  subst hρ
  have p4 := mulI_int 2 (ns.length : Int) (mulZ_of (a := 2) (b := 10) (by decide) (by omega) (by omega) (by omega) (by omega))
  refine ⟨springD G x 0, ⟨G, x, 0, rfl, lg, hx, by omega⟩, ?_⟩
  simp [D__law_spring, f__law_spring, env0, e2, restD, keepS, p4, e3, springD, still]
/-! the draws, the comparison: as typed functions -/
noncomputable def F__law_drop : D × Int × Unit → Option (Int × D) := fun p => match D__law_drop [p.1, .int p.2.1] with
  | .ok ((.int r, 0), s) => some (r, s)
  | _ => none
theorem t__law_drop : TFI D__law_drop eD (eCons eI eNil) eI 0 0 F__law_drop := ⟨fun i x a i' z => by
  unfold F__law_drop at z
  split at z
  · rename_i r s h
    cases z
    exact ⟨0, h, Nat.le_refl _, Nat.le_refl _⟩
  · cases z⟩
theorem drop_some {c : Nat} {s : D} (hs : Spr c s) (hc : c < 2 ^ 59) {m : Int} (hm : 1 ≤ m ∧ m < 1073741824) : ∃ r s', (0 ≤ r ∧ r < m) ∧ Spr (c + 1) s' ∧ F__law_drop (s, m, ()) = some (r, s') := by
  obtain ⟨g, x, y, rfl, h1, h2, h3⟩ := hs
  obtain ⟨r, g', x', y', a1, a2, a3, a4, e⟩ := sp_drop g x y m h1 h2 ⟨h3.1, by omega⟩ hm
  refine ⟨r, _, a1, ⟨g', x', y', rfl, a2, a3, by omega, by omega⟩, ?_⟩
  unfold F__law_drop
  dsimp only
  rw [e]
  rfl
noncomputable def F__law_spring : List Int × Unit → Option D := fun p => match D__law_spring [.list (p.1.map .int)] with
  | .ok (s, 2) => some s
  | _ => none
theorem t__law_spring : TF D__law_spring (eCons (eL eI) eNil) eD 2 2 F__law_spring := ⟨fun x a z => by
  unfold F__law_spring at z
  split at z
  · rename_i s h
    cases z
    exact ⟨2, h, Nat.le_refl _, Nat.le_refl _⟩
  · cases z⟩
theorem spring_some (ns : List Int) (hl : ns.length ≤ 63) (hb : ∀ z ∈ ns, Builtin.Int.intBits z ≤ 1048576) : ∃ s, Spr 0 s ∧ F__law_spring (ns, ()) = some s := by
  obtain ⟨s, hs, e⟩ := sp_spring ns hl hb
  refine ⟨s, hs, ?_⟩
  unfold F__law_spring
  dsimp only
  rw [e]
  rfl
open Classical in
noncomputable def F__law_alike {α : Type} (e : α → D) : α × α × Unit → Option Bool := fun p => if p.1 = p.2.1 ∧ Good 4 (e p.1) then some true else none
theorem t__law_alike {α : Type} {e : α → D} : TF (D__law_alike 5) (eCons e (eCons e eNil)) eB 0 0 (F__law_alike e) := ⟨fun x a z => by
  unfold F__law_alike at z
  split at z
  · rename_i h
    cases z
    have := sp_alike 4 (e x.1) h.2 (by omega)
    refine ⟨0, ?_, Nat.le_refl _, Nat.le_refl _⟩
    show D__law_alike 5 [e x.1, e x.2.1] = _
    rw [← h.1]
    exact this
  · cases z⟩
theorem alike_some {α : Type} {e : α → D} (a : α) (h : Good 4 (e a)) : F__law_alike e (a, a, ()) = some true := if_pos ⟨rfl, h⟩
end Q

namespace Q
open PySem PySem.Spec PyProof.Rows L2 DL TL
/-! _law_order : SP, I to T(I) -/
noncomputable def F__law_order_l1 : D × Int × (List Int) × (List Int) × Int × Unit → Option (Fo (List Int) (D × Unit) (D × Int × (List Int) × (List Int) × Unit) (D × Int × (List Int) × (List Int) × Unit)) := (tPost (fun s : D × Int × (List Int) × (List Int) × Int × Unit => (s.1, s.2.1, s.2.2.1, s.2.2.2.1, s.2.2.2.2.2)) (tAppS (fun s => ((tIO (fun s : D × Int × (List Int) × (List Int) × Int × Unit => s.1) (fun (a : D) (s : D × Int × (List Int) × (List Int) × Int × Unit) => (a, s.2)) F__law_drop (tX (tPr (tOp1 (fun a : (List Int) => some (a.length : Int)) (tV (fun s : D × Int × (List Int) × (List Int) × Int × Unit => s.2.2.1))) (tK (σ := D × Int × (List Int) × (List Int) × Int × Unit) ())))) s).bind fun v => (tPop ((fun s : D × Int × (List Int) × (List Int) × Int × Unit => s.2.2.1) v.2) v.1).map fun x => (x.1, (fun (a : (List Int)) (s : D × Int × (List Int) × (List Int) × Int × Unit) => (s.1, s.2.1, a, s.2.2.2)) x.2 v.2)) (fun s : D × Int × (List Int) × (List Int) × Int × Unit => s.2.2.2.1) (fun (a : (List Int)) (s : D × Int × (List Int) × (List Int) × Int × Unit) => (s.1, s.2.1, s.2.2.1, a, s.2.2.2.2))))
theorem t__law_order_l1 : TS (Rv eD 2 2 (Rv eI 0 0 (Rv (eL eI) 1 1 (Rv (eL eI) 1 1 (Rv eI 0 0 Rn))))) f__law_order_l1 (eT eI) 0 0 (Rv eD 2 2 Rn) (Rv eD 2 2 (Rv eI 0 0 (Rv (eL eI) 1 1 (Rv (eL eI) 1 1 (Ra Rn))))) F__law_order_l1 (Rv eD 2 2 (Rv eI 0 0 (Rv (eL eI) 1 1 (Rv (eL eI) 1 1 (Ra Rn))))) := by
  have h := ((ts_post (R2 := (Rv eD 2 2 (Rv eI 0 0 (Rv (eL eI) 1 1 (Rv (eL eI) 1 1 (Ra Rn)))))) (ts_app (gv (gv (gv g0))) (tx_pop (gv (gv g0)) (tx_io t__law_drop g0 ((ta_cons (te_p0 (tp_c1 o_lenL (tp_v (gv (gv g0))))) ta_nil)).x g0 p0v) (gv (gv g0)) (pv (pv p0v))) (gv (gv (gv g0))) (pv (pv (pv p0v)))) (wv (wv (wv (wv (wd wn)))))) : TS (Rv eD 2 2 (Rv eI 0 0 (Rv (eL eI) 1 1 (Rv (eL eI) 1 1 (Rv eI 0 0 Rn))))) f__law_order_l1 (eT eI) 0 0 (Rv eD 2 2 Rn) (Rv eD 2 2 (Rv eI 0 0 (Rv (eL eI) 1 1 (Rv (eL eI) 1 1 (Ra Rn))))) _ (Rv eD 2 2 (Rv eI 0 0 (Rv (eL eI) 1 1 (Rv (eL eI) 1 1 (Ra Rn))))))
  exact h
noncomputable def F__law_order : D × Int × Unit → Option ((List Int) × D) := tRunI (σ' := Unit) (vn := none) (tSeq (tPar (tX (tOp1 tRgN (tV (fun s : D × Int × Unit => s.2.1)))) (tX (tOp1 (fun x => some ((fun _ : Unit => ([] : (List Int))) x)) (tK (σ := D × Int × Unit) ()))) (fun (a : (List Int)) (s : D × Int × Unit) => (s.1, s.2.1, a, s.2.2)) (fun (a : (List Int)) (s : D × Int × (List Int) × Unit) => (s.1, s.2.1, s.2.2.1, a, s.2.2.2)))
    (tSeq (tForS (tOp1 tRg (tV (fun s : D × Int × (List Int) × (List Int) × Unit => s.2.1))) (fun s : D × Int × (List Int) × (List Int) × Unit => s) (fun (a : Int) (s : D × Int × (List Int) × (List Int) × Unit) => (s.1, s.2.1, s.2.2.1, s.2.2.2.1, a, s.2.2.2.2)) F__law_order_l1)
    (tRt (tOp1 (fun a : (List Int) => some a) (tV (fun s : D × Int × (List Int) × (List Int) × Unit => s.2.2.2.1))) (fun s : D × Int × (List Int) × (List Int) × Unit => (s.1, ())))))
theorem t__law_order : TFI D__law_order eD (eCons eI eNil) (eT eI) 0 0 F__law_order := by
  have h := (tfi_run (R' := Rn) (m := 1) (vn := none) (in_c (in_a (in_a (in_a in_0)))) (ts_seq (ts_par ((te_lrg (te_p1 (tp_v (gv g0))))).x ((te_lst (e := (eL eI)) (m := (fun _ : Unit => ([] : (List Int)))) (k := 0) ta_nil)).x (pv (pv p0a)) (pv (pv (pv p0a))))
    (ts_seq (ts_for (R := (Rv eD 2 2 (Rv eI 0 0 (Rv (eL eI) 1 1 (Rv (eL eI) 1 1 (Ra Rn)))))) (ti_r1 (tp_v (gv g0))) (wv (wv (wv (wv (wa wn))))) (tg_name (pv (pv (pv (pv p0a))))) t__law_order_l1)
    (ts_ret (te_c1p (oc_tupleL (h1 := 1)) (tp_v (gv (gv (gv g0))))) (wv wt)))) : TFI D__law_order eD (eCons eI eNil) (eT eI) 0 0 _)
  exact h
/-! _law_land : SP, I to P(T(I),T(P(I,I))) -/
noncomputable def F__law_land_k1 : D × Int × Int × Int × Int × Unit → Option ((List Int) × (D × Int × Int × Int × Int × Unit)) := tLx (tOp1 tRg (tV (fun s : D × Int × Int × Int × Int × Unit => s.2.2.1))) (fun (a : Int) (s : D × Int × Int × Int × Int × Unit) => (s.1, s.2.1, s.2.2.1, s.2.2.2.1, s.2.2.2.2.1, a, s.2.2.2.2.2)) (tX (tK (σ := D × Int × Int × Int × Int × Int × Unit) true)) (tIO (fun s : D × Int × Int × Int × Int × Int × Unit => s.1) (fun (a : D) (s : D × Int × Int × Int × Int × Int × Unit) => (a, s.2)) F__law_drop (tX (tPr (tV (fun s : D × Int × Int × Int × Int × Int × Unit => s.2.2.2.2.1)) (tK (σ := D × Int × Int × Int × Int × Int × Unit) ())))) (fun s : D × Int × Int × Int × Int × Int × Unit => ((fun s : D × Int × Int × Int × Int × Int × Unit => (s.1, s.2.1, s.2.2.1, s.2.2.2.1, s.2.2.2.2.1, s.2.2.2.2.2.2)) s)) (fun s : D × Int × Int × Int × Int × Int × Unit => ((fun s : D × Int × Int × Int × Int × Int × Unit => (s.1, s.2.1, s.2.2.1, s.2.2.2.1, s.2.2.2.2.1, s.2.2.2.2.2.2)) s))
noncomputable def F__law_land_l1 : D × Int × Int × Int × Int × (List Int) × (List ((Int × Int) × Bool)) × Int × Int × Unit → Option (Fo ((List Int) × (List (Int × Int))) (D × Unit) (D × Int × Int × Int × Int × (List Int) × (List ((Int × Int) × Bool)) × Int × Unit) (D × Int × Int × Int × Int × (List Int) × (List ((Int × Int) × Bool)) × Int × Unit)) := (tPost (fun s : D × Int × Int × Int × Int × (List Int) × (List ((Int × Int) × Bool)) × Int × Int × Unit => (s.1, s.2.1, s.2.2.1, s.2.2.2.1, s.2.2.2.2.1, s.2.2.2.2.2.1, s.2.2.2.2.2.2.1, s.2.2.2.2.2.2.2.1, s.2.2.2.2.2.2.2.2.2)) (tIte (tBn (fun a b : Int => some (decide (a < b))) (tPr (tV (fun s : D × Int × Int × Int × Int × (List Int) × (List ((Int × Int) × Bool)) × Int × Int × Unit => s.2.2.2.1)) (tK (σ := D × Int × Int × Int × Int × (List Int) × (List ((Int × Int) × Bool)) × Int × Int × Unit) (2 : Int)))) (tPutS (tX (tK (σ := D × Int × Int × Int × Int × (List Int) × (List ((Int × Int) × Bool)) × Int × Int × Unit) true)) (tX (tPr (tOp2 (fun a b => some (a - b)) (tV (fun s : D × Int × Int × Int × Int × (List Int) × (List ((Int × Int) × Bool)) × Int × Int × Unit => s.2.2.2.2.2.2.2.2.1)) (tK (σ := D × Int × Int × Int × Int × (List Int) × (List ((Int × Int) × Bool)) × Int × Int × Unit) (1 : Int))) (tV (fun s : D × Int × Int × Int × Int × (List Int) × (List ((Int × Int) × Bool)) × Int × Int × Unit => s.2.2.2.2.2.2.2.2.1)))) (fun s : D × Int × Int × Int × Int × (List Int) × (List ((Int × Int) × Bool)) × Int × Int × Unit => s.2.2.2.2.2.2.1) (fun (a : (List ((Int × Int) × Bool))) (s : D × Int × Int × Int × Int × (List Int) × (List ((Int × Int) × Bool)) × Int × Int × Unit) => (s.1, s.2.1, s.2.2.1, s.2.2.2.1, s.2.2.2.2.1, s.2.2.2.2.2.1, a, s.2.2.2.2.2.2.2))) (tIte (tBn tEq (tPr (tV (fun s : D × Int × Int × Int × Int × (List Int) × (List ((Int × Int) × Bool)) × Int × Int × Unit => s.2.2.2.1)) (tK (σ := D × Int × Int × Int × Int × (List Int) × (List ((Int × Int) × Bool)) × Int × Int × Unit) (2 : Int)))) (tPutS (tX (tK (σ := D × Int × Int × Int × Int × (List Int) × (List ((Int × Int) × Bool)) × Int × Int × Unit) true)) (tIteX (tX (tBn (fun a b : Int => some (decide (a ≤ b))) (tPr (tOp2 tMul (tK (σ := D × Int × Int × Int × Int × (List Int) × (List ((Int × Int) × Bool)) × Int × Int × Unit) (2 : Int)) (tV (fun s : D × Int × Int × Int × Int × (List Int) × (List ((Int × Int) × Bool)) × Int × Int × Unit => s.2.2.2.2.2.2.2.2.1))) (tV (fun s : D × Int × Int × Int × Int × (List Int) × (List ((Int × Int) × Bool)) × Int × Int × Unit => s.2.2.1))))) (tX (tPr (tOp2 (fun a b => some (a - b)) (tV (fun s : D × Int × Int × Int × Int × (List Int) × (List ((Int × Int) × Bool)) × Int × Int × Unit => s.2.2.2.2.2.2.2.2.1)) (tK (σ := D × Int × Int × Int × Int × (List Int) × (List ((Int × Int) × Bool)) × Int × Int × Unit) (1 : Int))) (tV (fun s : D × Int × Int × Int × Int × (List Int) × (List ((Int × Int) × Bool)) × Int × Int × Unit => s.2.2.2.2.2.2.2.2.1)))) (tX (tPr (tOp2 (fun a b => some (a - b)) (tV (fun s : D × Int × Int × Int × Int × (List Int) × (List ((Int × Int) × Bool)) × Int × Int × Unit => s.2.2.1)) (tV (fun s : D × Int × Int × Int × Int × (List Int) × (List ((Int × Int) × Bool)) × Int × Int × Unit => s.2.2.2.2.2.2.2.2.1))) (tV (fun s : D × Int × Int × Int × Int × (List Int) × (List ((Int × Int) × Bool)) × Int × Int × Unit => s.2.2.2.2.2.2.2.2.1))))) (fun s : D × Int × Int × Int × Int × (List Int) × (List ((Int × Int) × Bool)) × Int × Int × Unit => s.2.2.2.2.2.2.1) (fun (a : (List ((Int × Int) × Bool))) (s : D × Int × Int × Int × Int × (List Int) × (List ((Int × Int) × Bool)) × Int × Int × Unit) => (s.1, s.2.1, s.2.2.1, s.2.2.2.1, s.2.2.2.2.1, s.2.2.2.2.2.1, a, s.2.2.2.2.2.2.2))) (tIte (tBn (fun a b : Int => some (decide (b < a))) (tPr (tV (fun s : D × Int × Int × Int × Int × (List Int) × (List ((Int × Int) × Bool)) × Int × Int × Unit => s.2.2.2.1)) (tK (σ := D × Int × Int × Int × Int × (List Int) × (List ((Int × Int) × Bool)) × Int × Int × Unit) (4 : Int)))) (tPutS (tX (tK (σ := D × Int × Int × Int × Int × (List Int) × (List ((Int × Int) × Bool)) × Int × Int × Unit) true)) (tPrX (tIO (fun s : D × Int × Int × Int × Int × (List Int) × (List ((Int × Int) × Bool)) × Int × Int × Unit => s.1) (fun (a : D) (s : D × Int × Int × Int × Int × (List Int) × (List ((Int × Int) × Bool)) × Int × Int × Unit) => (a, s.2)) F__law_drop (tX (tPr (tV (fun s : D × Int × Int × Int × Int × (List Int) × (List ((Int × Int) × Bool)) × Int × Int × Unit => s.2.2.2.2.2.2.2.2.1)) (tK (σ := D × Int × Int × Int × Int × (List Int) × (List ((Int × Int) × Bool)) × Int × Int × Unit) ())))) (tX (tV (fun s : D × Int × Int × Int × Int × (List Int) × (List ((Int × Int) × Bool)) × Int × Int × Unit => s.2.2.2.2.2.2.2.2.1)))) (fun s : D × Int × Int × Int × Int × (List Int) × (List ((Int × Int) × Bool)) × Int × Int × Unit => s.2.2.2.2.2.2.1) (fun (a : (List ((Int × Int) × Bool))) (s : D × Int × Int × Int × Int × (List Int) × (List ((Int × Int) × Bool)) × Int × Int × Unit) => (s.1, s.2.1, s.2.2.1, s.2.2.2.1, s.2.2.2.2.1, s.2.2.2.2.2.1, a, s.2.2.2.2.2.2.2))) (tNx (σ := D × Int × Int × Int × Int × (List Int) × (List ((Int × Int) × Bool)) × Int × Int × Unit))))))
theorem t__law_land_l1 : TS (Rv eD 2 2 (Rv eI 0 0 (Rv eI 0 0 (Rv eI 0 0 (Rv eI 0 0 (Rv (eT eI) 0 0 (Rv (eDc kII eB) 1 1 (Rv eI 0 0 (Rv eI 0 0 (Ra (Ra (Ra Rn)))))))))))) f__law_land_l1 (eP (eT eI) (eT (eP eI eI))) 0 0 (Rv eD 2 2 Rn) (Rv eD 2 2 (Rv eI 0 0 (Rv eI 0 0 (Rv eI 0 0 (Rv eI 0 0 (Rv (eT eI) 0 0 (Rv (eDc kII eB) 1 1 (Rv eI 0 0 (Ra (Ra (Ra (Ra Rn)))))))))))) F__law_land_l1 (Rv eD 2 2 (Rv eI 0 0 (Rv eI 0 0 (Rv eI 0 0 (Rv eI 0 0 (Rv (eT eI) 0 0 (Rv (eDc kII eB) 1 1 (Rv eI 0 0 (Ra (Ra (Ra (Ra Rn)))))))))))) := by
  have h := ((ts_post (R2 := (Rv eD 2 2 (Rv eI 0 0 (Rv eI 0 0 (Rv eI 0 0 (Rv eI 0 0 (Rv (eT eI) 0 0 (Rv (eDc kII eB) 1 1 (Rv eI 0 0 (Ra (Ra (Ra (Ra Rn))))))))))))) (ts_if (tt_cmp (on_2 o_lt) (td_P (tp_v (gv (gv (gv g0)))) tp_k)) (ts_put kII_inj ((te_p0 tp_k)).x (gv (gv (gv (gv (gv (gv g0)))))) (tk_2 (tp_bin o_sub (tp_v (gv (gv (gv (gv (gv (gv (gv (gv g0))))))))) tp_k) (tp_v (gv (gv (gv (gv (gv (gv (gv (gv g0)))))))))) (gv (gv (gv (gv (gv (gv g0)))))) (pv (pv (pv (pv (pv (pv p0v))))))) (ts_if (tt_cmp (on_2 (o_eq ok_I)) (td_P (tp_v (gv (gv (gv g0)))) tp_k)) (ts_put kII_inj ((te_p0 tp_k)).x (gv (gv (gv (gv (gv (gv g0)))))) (tk_if ((tt_cmp (on_2 o_le) (td_P (tp_bin o_mul tp_k (tp_v (gv (gv (gv (gv (gv (gv (gv (gv g0)))))))))) (tp_v (gv (gv g0)))))).x (tk_2 (tp_bin o_sub (tp_v (gv (gv (gv (gv (gv (gv (gv (gv g0))))))))) tp_k) (tp_v (gv (gv (gv (gv (gv (gv (gv (gv g0)))))))))) (tk_2 (tp_bin o_sub (tp_v (gv (gv g0))) (tp_v (gv (gv (gv (gv (gv (gv (gv (gv g0)))))))))) (tp_v (gv (gv (gv (gv (gv (gv (gv (gv g0))))))))))) (gv (gv (gv (gv (gv (gv g0)))))) (pv (pv (pv (pv (pv (pv p0v))))))) (ts_if (tt_cmp (on_2 o_gt) (td_P (tp_v (gv (gv (gv g0)))) tp_k)) (ts_put kII_inj ((te_p0 tp_k)).x (gv (gv (gv (gv (gv (gv g0)))))) (tk_2X (tx_io t__law_drop g0 ((ta_cons (te_v (fv (fv (fv (fv (fv (fv (fv (fv f0))))))))) ta_nil)).x g0 p0v) ((te_v (fv (fv (fv (fv (fv (fv (fv (fv f0)))))))))).x) (gv (gv (gv (gv (gv (gv g0)))))) (pv (pv (pv (pv (pv (pv p0v))))))) ts_nil))) (wv (wv (wv (wv (wv (wv (wv (wv (wd (wa (wa (wa wn))))))))))))) : TS (Rv eD 2 2 (Rv eI 0 0 (Rv eI 0 0 (Rv eI 0 0 (Rv eI 0 0 (Rv (eT eI) 0 0 (Rv (eDc kII eB) 1 1 (Rv eI 0 0 (Rv eI 0 0 (Ra (Ra (Ra Rn)))))))))))) f__law_land_l1 (eP (eT eI) (eT (eP eI eI))) 0 0 (Rv eD 2 2 Rn) (Rv eD 2 2 (Rv eI 0 0 (Rv eI 0 0 (Rv eI 0 0 (Rv eI 0 0 (Rv (eT eI) 0 0 (Rv (eDc kII eB) 1 1 (Rv eI 0 0 (Ra (Ra (Ra (Ra Rn)))))))))))) _ (Rv eD 2 2 (Rv eI 0 0 (Rv eI 0 0 (Rv eI 0 0 (Rv eI 0 0 (Rv (eT eI) 0 0 (Rv (eDc kII eB) 1 1 (Rv eI 0 0 (Ra (Ra (Ra (Ra Rn)))))))))))))
  exact h
noncomputable def F__law_land_l3 : D × Int × Int × Int × Int × (List Int) × (List ((Int × Int) × Bool)) × Int × Int × Int × Unit → Option (Fo ((List Int) × (List (Int × Int))) (D × Unit) (D × Int × Int × Int × Int × (List Int) × (List ((Int × Int) × Bool)) × Int × Int × Unit) (D × Int × Int × Int × Int × (List Int) × (List ((Int × Int) × Bool)) × Int × Int × Unit)) := (tPost (fun s : D × Int × Int × Int × Int × (List Int) × (List ((Int × Int) × Bool)) × Int × Int × Int × Unit => (s.1, s.2.1, s.2.2.1, s.2.2.2.1, s.2.2.2.2.1, s.2.2.2.2.2.1, s.2.2.2.2.2.2.1, s.2.2.2.2.2.2.2.1, s.2.2.2.2.2.2.2.2.1, s.2.2.2.2.2.2.2.2.2.2)) (tIteX (tAndX (tX (tBn (fun a b : Int => some (decide (b < a))) (tPr (tV (fun s : D × Int × Int × Int × Int × (List Int) × (List ((Int × Int) × Bool)) × Int × Int × Int × Unit => s.2.2.2.1)) (tK (σ := D × Int × Int × Int × Int × (List Int) × (List ((Int × Int) × Bool)) × Int × Int × Int × Unit) (3 : Int))))) (tBnX tEq (tPrX (tIO (fun s : D × Int × Int × Int × Int × (List Int) × (List ((Int × Int) × Bool)) × Int × Int × Int × Unit => s.1) (fun (a : D) (s : D × Int × Int × Int × Int × (List Int) × (List ((Int × Int) × Bool)) × Int × Int × Int × Unit) => (a, s.2)) F__law_drop (tX (tPr (tOp2 (fun a b => some (a + b)) (tV (fun s : D × Int × Int × Int × Int × (List Int) × (List ((Int × Int) × Bool)) × Int × Int × Int × Unit => s.2.2.2.2.2.2.2.1)) (tK (σ := D × Int × Int × Int × Int × (List Int) × (List ((Int × Int) × Bool)) × Int × Int × Int × Unit) (1 : Int))) (tK (σ := D × Int × Int × Int × Int × (List Int) × (List ((Int × Int) × Bool)) × Int × Int × Int × Unit) ())))) (tX (tK (σ := D × Int × Int × Int × Int × (List Int) × (List ((Int × Int) × Bool)) × Int × Int × Int × Unit) (0 : Int))))) (fun s : D × Int × Int × Int × Int × (List Int) × (List ((Int × Int) × Bool)) × Int × Int × Int × Unit => s)) (tPutS (tX (tK (σ := D × Int × Int × Int × Int × (List Int) × (List ((Int × Int) × Bool)) × Int × Int × Int × Unit) true)) (tX (tPr (tV (fun s : D × Int × Int × Int × Int × (List Int) × (List ((Int × Int) × Bool)) × Int × Int × Int × Unit => s.2.2.2.2.2.2.2.2.2.1)) (tV (fun s : D × Int × Int × Int × Int × (List Int) × (List ((Int × Int) × Bool)) × Int × Int × Int × Unit => s.2.2.2.2.2.2.2.2.1)))) (fun s : D × Int × Int × Int × Int × (List Int) × (List ((Int × Int) × Bool)) × Int × Int × Int × Unit => s.2.2.2.2.2.2.1) (fun (a : (List ((Int × Int) × Bool))) (s : D × Int × Int × Int × Int × (List Int) × (List ((Int × Int) × Bool)) × Int × Int × Int × Unit) => (s.1, s.2.1, s.2.2.1, s.2.2.2.1, s.2.2.2.2.1, s.2.2.2.2.2.1, a, s.2.2.2.2.2.2.2))) (tNx (σ := D × Int × Int × Int × Int × (List Int) × (List ((Int × Int) × Bool)) × Int × Int × Int × Unit))))
theorem t__law_land_l3 : TS (Rv eD 2 2 (Rv eI 0 0 (Rv eI 0 0 (Rv eI 0 0 (Rv eI 0 0 (Rv (eT eI) 0 0 (Rv (eDc kII eB) 1 1 (Rv eI 0 0 (Ra (Rv eI 0 0 (Rv eI 0 0 (Ra Rn)))))))))))) f__law_land_l2 (eP (eT eI) (eT (eP eI eI))) 0 0 (Rv eD 2 2 Rn) (Rv eD 2 2 (Rv eI 0 0 (Rv eI 0 0 (Rv eI 0 0 (Rv eI 0 0 (Rv (eT eI) 0 0 (Rv (eDc kII eB) 1 1 (Rv eI 0 0 (Ra (Rv eI 0 0 (Ra (Ra Rn)))))))))))) F__law_land_l3 (Rv eD 2 2 (Rv eI 0 0 (Rv eI 0 0 (Rv eI 0 0 (Rv eI 0 0 (Rv (eT eI) 0 0 (Rv (eDc kII eB) 1 1 (Rv eI 0 0 (Ra (Rv eI 0 0 (Ra (Ra Rn)))))))))))) := by
  have h := ((ts_post (R2 := (Rv eD 2 2 (Rv eI 0 0 (Rv eI 0 0 (Rv eI 0 0 (Rv eI 0 0 (Rv (eT eI) 0 0 (Rv (eDc kII eB) 1 1 (Rv eI 0 0 (Ra (Rv eI 0 0 (Ra (Ra Rn))))))))))))) (ts_ifX (ttx_and ((tt_cmp (on_2 o_gt) (td_P (tp_v (gv (gv (gv g0)))) tp_k))).x (ttx_cmp (on_2 (o_eq ok_I)) (td_E (tx_io t__law_drop g0 ((ta_cons (te_p0 (tp_bin o_add (tp_v (gv (gv (gv (gv (gv (gv (gv g0)))))))) tp_k)) ta_nil)).x g0 p0v) ((te_p1 tp_k)).x)) (wv (wv (wv (wv (wv (wv (wv (wv (wa (wv (wv (wa wn))))))))))))) (ts_put kII_inj ((te_p0 tp_k)).x (gv (gv (gv (gv (gv (gv g0)))))) (tk_2 (tp_v (gv (gv (gv (gv (gv (gv (gv (gv (ga (gv g0))))))))))) (tp_v (gv (gv (gv (gv (gv (gv (gv (gv (ga g0))))))))))) (gv (gv (gv (gv (gv (gv g0)))))) (pv (pv (pv (pv (pv (pv p0v))))))) ts_nil) (wv (wv (wv (wv (wv (wv (wv (wv (wa (wv (wd (wa wn))))))))))))) : TS (Rv eD 2 2 (Rv eI 0 0 (Rv eI 0 0 (Rv eI 0 0 (Rv eI 0 0 (Rv (eT eI) 0 0 (Rv (eDc kII eB) 1 1 (Rv eI 0 0 (Ra (Rv eI 0 0 (Rv eI 0 0 (Ra Rn)))))))))))) f__law_land_l2 (eP (eT eI) (eT (eP eI eI))) 0 0 (Rv eD 2 2 Rn) (Rv eD 2 2 (Rv eI 0 0 (Rv eI 0 0 (Rv eI 0 0 (Rv eI 0 0 (Rv (eT eI) 0 0 (Rv (eDc kII eB) 1 1 (Rv eI 0 0 (Ra (Rv eI 0 0 (Ra (Ra Rn)))))))))))) _ (Rv eD 2 2 (Rv eI 0 0 (Rv eI 0 0 (Rv eI 0 0 (Rv eI 0 0 (Rv (eT eI) 0 0 (Rv (eDc kII eB) 1 1 (Rv eI 0 0 (Ra (Rv eI 0 0 (Ra (Ra Rn)))))))))))))
  exact h
noncomputable def F__law_land_l2 : D × Int × Int × Int × Int × (List Int) × (List ((Int × Int) × Bool)) × Int × Int × Unit → Option (Fo ((List Int) × (List (Int × Int))) (D × Unit) (D × Int × Int × Int × Int × (List Int) × (List ((Int × Int) × Bool)) × Int × Unit) (D × Int × Int × Int × Int × (List Int) × (List ((Int × Int) × Bool)) × Int × Unit)) := (tPost (fun s : D × Int × Int × Int × Int × (List Int) × (List ((Int × Int) × Bool)) × Int × Int × Unit => (s.1, s.2.1, s.2.2.1, s.2.2.2.1, s.2.2.2.2.1, s.2.2.2.2.2.1, s.2.2.2.2.2.2.1, s.2.2.2.2.2.2.2.1, s.2.2.2.2.2.2.2.2.2)) (tForS (tOp1 tRg (tV (fun s : D × Int × Int × Int × Int × (List Int) × (List ((Int × Int) × Bool)) × Int × Int × Unit => s.2.2.2.2.2.2.2.2.1))) (fun s : D × Int × Int × Int × Int × (List Int) × (List ((Int × Int) × Bool)) × Int × Int × Unit => s) (fun (a : Int) (s : D × Int × Int × Int × Int × (List Int) × (List ((Int × Int) × Bool)) × Int × Int × Unit) => (s.1, s.2.1, s.2.2.1, s.2.2.2.1, s.2.2.2.2.1, s.2.2.2.2.2.1, s.2.2.2.2.2.2.1, s.2.2.2.2.2.2.2.1, s.2.2.2.2.2.2.2.2.1, a, s.2.2.2.2.2.2.2.2.2)) F__law_land_l3))
theorem t__law_land_l2 : TS (Rv eD 2 2 (Rv eI 0 0 (Rv eI 0 0 (Rv eI 0 0 (Rv eI 0 0 (Rv (eT eI) 0 0 (Rv (eDc kII eB) 1 1 (Rv eI 0 0 (Ra (Rv eI 0 0 (Ra (Ra Rn)))))))))))) f__law_land_l3 (eP (eT eI) (eT (eP eI eI))) 0 0 (Rv eD 2 2 Rn) (Rv eD 2 2 (Rv eI 0 0 (Rv eI 0 0 (Rv eI 0 0 (Rv eI 0 0 (Rv (eT eI) 0 0 (Rv (eDc kII eB) 1 1 (Rv eI 0 0 (Ra (Ra (Ra (Ra Rn)))))))))))) F__law_land_l2 (Rv eD 2 2 (Rv eI 0 0 (Rv eI 0 0 (Rv eI 0 0 (Rv eI 0 0 (Rv (eT eI) 0 0 (Rv (eDc kII eB) 1 1 (Rv eI 0 0 (Ra (Ra (Ra (Ra Rn)))))))))))) := by
  have h := ((ts_post (R2 := (Rv eD 2 2 (Rv eI 0 0 (Rv eI 0 0 (Rv eI 0 0 (Rv eI 0 0 (Rv (eT eI) 0 0 (Rv (eDc kII eB) 1 1 (Rv eI 0 0 (Ra (Ra (Ra (Ra Rn))))))))))))) (ts_for (R := (Rv eD 2 2 (Rv eI 0 0 (Rv eI 0 0 (Rv eI 0 0 (Rv eI 0 0 (Rv (eT eI) 0 0 (Rv (eDc kII eB) 1 1 (Rv eI 0 0 (Ra (Rv eI 0 0 (Ra (Ra Rn))))))))))))) (ti_r1 (tp_v (gv (gv (gv (gv (gv (gv (gv (gv (ga g0))))))))))) (wv (wv (wv (wv (wv (wv (wv (wv (wa (wv (wa (wa wn)))))))))))) (tg_name (pv (pv (pv (pv (pv (pv (pv (pv (pa (pv p0a))))))))))) t__law_land_l3) (wv (wv (wv (wv (wv (wv (wv (wv (wa (wd (wa (wa wn))))))))))))) : TS (Rv eD 2 2 (Rv eI 0 0 (Rv eI 0 0 (Rv eI 0 0 (Rv eI 0 0 (Rv (eT eI) 0 0 (Rv (eDc kII eB) 1 1 (Rv eI 0 0 (Ra (Rv eI 0 0 (Ra (Ra Rn)))))))))))) f__law_land_l3 (eP (eT eI) (eT (eP eI eI))) 0 0 (Rv eD 2 2 Rn) (Rv eD 2 2 (Rv eI 0 0 (Rv eI 0 0 (Rv eI 0 0 (Rv eI 0 0 (Rv (eT eI) 0 0 (Rv (eDc kII eB) 1 1 (Rv eI 0 0 (Ra (Ra (Ra (Ra Rn)))))))))))) _ (Rv eD 2 2 (Rv eI 0 0 (Rv eI 0 0 (Rv eI 0 0 (Rv eI 0 0 (Rv (eT eI) 0 0 (Rv (eDc kII eB) 1 1 (Rv eI 0 0 (Ra (Ra (Ra (Ra Rn)))))))))))))
  exact h
noncomputable def F__law_land : D × Int × Unit → Option (((List Int) × (List (Int × Int))) × D) := tRunI (σ' := Unit) (vn := none) (tSeq (tPar (tBnX (fun a b : Int => some (a + b)) (tPrX (tX (tK (σ := D × Int × Unit) (2 : Int))) (tIO (fun s : D × Int × Unit => s.1) (fun (a : D) (s : D × Int × Unit) => (a, s.2)) F__law_drop (tX (tPr (tOp2 (fun a b => some (a - b)) (tV (fun s : D × Int × Unit => s.2.1)) (tK (σ := D × Int × Unit) (1 : Int))) (tK (σ := D × Int × Unit) ())))))) (tIO (fun s : D × Int × Unit => s.1) (fun (a : D) (s : D × Int × Unit) => (a, s.2)) F__law_drop (tX (tPr (tK (σ := D × Int × Unit) (10 : Int)) (tK (σ := D × Int × Unit) ())))) (fun (a : Int) (s : D × Int × Unit) => (s.1, s.2.1, a, s.2.2)) (fun (a : Int) (s : D × Int × Int × Unit) => (s.1, s.2.1, s.2.2.1, a, s.2.2.2)))
    (tSeq (tAsgX (tBnX tIx (tPrX (tX (tOp1 (fun x => some ((fun x : Int × Int × Int × Int × Unit => [x.1, x.2.1, x.2.2.1, x.2.2.2.1]) x)) (tPr (tK (σ := D × Int × Int × Int × Unit) (1 : Int)) (tPr (tK (σ := D × Int × Int × Int × Unit) (2 : Int)) (tPr (tK (σ := D × Int × Int × Int × Unit) (9 : Int)) (tPr (tK (σ := D × Int × Int × Int × Unit) (1000001 : Int)) (tK (σ := D × Int × Int × Int × Unit) ()))))))) (tIO (fun s : D × Int × Int × Int × Unit => s.1) (fun (a : D) (s : D × Int × Int × Int × Unit) => (a, s.2)) F__law_drop (tX (tPr (tK (σ := D × Int × Int × Int × Unit) (4 : Int)) (tK (σ := D × Int × Int × Int × Unit) ())))))) (fun (a : Int) (s : D × Int × Int × Int × Unit) => (s.1, s.2.1, s.2.2.1, s.2.2.2.1, a, s.2.2.2.2)))
    (tSeq (tPar3 (fun s => (F__law_land_k1 s).bind fun p => ((fun a : (List Int) => some a) p.1).map fun c => (c, p.2)) (tX (tK (σ := D × Int × Int × Int × Int × Unit) ([] : (List ((Int × Int) × Bool))))) (tBnX (fun a b : Int => some (a + b)) (tPrX (tX (tK (σ := D × Int × Int × Int × Int × Unit) (1 : Int))) (tIO (fun s : D × Int × Int × Int × Int × Unit => s.1) (fun (a : D) (s : D × Int × Int × Int × Int × Unit) => (a, s.2)) F__law_drop (tX (tPr (tK (σ := D × Int × Int × Int × Int × Unit) (6 : Int)) (tK (σ := D × Int × Int × Int × Int × Unit) ())))))) (fun (a : (List Int)) (s : D × Int × Int × Int × Int × Unit) => (s.1, s.2.1, s.2.2.1, s.2.2.2.1, s.2.2.2.2.1, a, s.2.2.2.2.2)) (fun (a : (List ((Int × Int) × Bool))) (s : D × Int × Int × Int × Int × (List Int) × Unit) => (s.1, s.2.1, s.2.2.1, s.2.2.2.1, s.2.2.2.2.1, s.2.2.2.2.2.1, a, s.2.2.2.2.2.2)) (fun (a : Int) (s : D × Int × Int × Int × Int × (List Int) × (List ((Int × Int) × Bool)) × Unit) => (s.1, s.2.1, s.2.2.1, s.2.2.2.1, s.2.2.2.2.1, s.2.2.2.2.2.1, s.2.2.2.2.2.2.1, a, s.2.2.2.2.2.2.2)))
    (tSeq (tForS (tOp2 tRg2 (tK (σ := D × Int × Int × Int × Int × (List Int) × (List ((Int × Int) × Bool)) × Int × Unit) (1 : Int)) (tV (fun s : D × Int × Int × Int × Int × (List Int) × (List ((Int × Int) × Bool)) × Int × Unit => s.2.2.1))) (fun s : D × Int × Int × Int × Int × (List Int) × (List ((Int × Int) × Bool)) × Int × Unit => s) (fun (a : Int) (s : D × Int × Int × Int × Int × (List Int) × (List ((Int × Int) × Bool)) × Int × Unit) => (s.1, s.2.1, s.2.2.1, s.2.2.2.1, s.2.2.2.2.1, s.2.2.2.2.2.1, s.2.2.2.2.2.2.1, s.2.2.2.2.2.2.2.1, a, s.2.2.2.2.2.2.2.2)) F__law_land_l1)
    (tSeq (tIte (tAnd (tBn tEq (tPr (tV (fun s : D × Int × Int × Int × Int × (List Int) × (List ((Int × Int) × Bool)) × Int × Unit => s.2.2.2.1)) (tK (σ := D × Int × Int × Int × Int × (List Int) × (List ((Int × Int) × Bool)) × Int × Unit) (1 : Int)))) (tBn (fun a b : Int => some (decide (b < a))) (tPr (tV (fun s : D × Int × Int × Int × Int × (List Int) × (List ((Int × Int) × Bool)) × Int × Unit => s.2.2.1)) (tK (σ := D × Int × Int × Int × Int × (List Int) × (List ((Int × Int) × Bool)) × Int × Unit) (2 : Int))))) (tPutS (tX (tK (σ := D × Int × Int × Int × Int × (List Int) × (List ((Int × Int) × Bool)) × Int × Unit) true)) (tX (tPr (tK (σ := D × Int × Int × Int × Int × (List Int) × (List ((Int × Int) × Bool)) × Int × Unit) (0 : Int)) (tOp2 (fun a b => some (a - b)) (tV (fun s : D × Int × Int × Int × Int × (List Int) × (List ((Int × Int) × Bool)) × Int × Unit => s.2.2.1)) (tK (σ := D × Int × Int × Int × Int × (List Int) × (List ((Int × Int) × Bool)) × Int × Unit) (1 : Int))))) (fun s : D × Int × Int × Int × Int × (List Int) × (List ((Int × Int) × Bool)) × Int × Unit => s.2.2.2.2.2.2.1) (fun (a : (List ((Int × Int) × Bool))) (s : D × Int × Int × Int × Int × (List Int) × (List ((Int × Int) × Bool)) × Int × Unit) => (s.1, s.2.1, s.2.2.1, s.2.2.2.1, s.2.2.2.2.1, s.2.2.2.2.2.1, a, s.2.2.2.2.2.2.2))) (tNx (σ := D × Int × Int × Int × Int × (List Int) × (List ((Int × Int) × Bool)) × Int × Unit)))
    (tSeq (tForS (tOp1 tRg (tV (fun s : D × Int × Int × Int × Int × (List Int) × (List ((Int × Int) × Bool)) × Int × Unit => s.2.2.1))) (fun s : D × Int × Int × Int × Int × (List Int) × (List ((Int × Int) × Bool)) × Int × Unit => s) (fun (a : Int) (s : D × Int × Int × Int × Int × (List Int) × (List ((Int × Int) × Bool)) × Int × Unit) => (s.1, s.2.1, s.2.2.1, s.2.2.2.1, s.2.2.2.2.1, s.2.2.2.2.2.1, s.2.2.2.2.2.2.1, s.2.2.2.2.2.2.2.1, a, s.2.2.2.2.2.2.2.2)) F__law_land_l2)
    (tSeq (tAsgX (tIO (fun s : D × Int × Int × Int × Int × (List Int) × (List ((Int × Int) × Bool)) × Int × Unit => s.1) (fun (a : D) (s : D × Int × Int × Int × Int × (List Int) × (List ((Int × Int) × Bool)) × Int × Unit) => (a, s.2)) F__law_order (tX (tPr (tV (fun s : D × Int × Int × Int × Int × (List Int) × (List ((Int × Int) × Bool)) × Int × Unit => s.2.2.1)) (tK (σ := D × Int × Int × Int × Int × (List Int) × (List ((Int × Int) × Bool)) × Int × Unit) ())))) (fun (a : (List Int)) (s : D × Int × Int × Int × Int × (List Int) × (List ((Int × Int) × Bool)) × Int × Unit) => (s.1, s.2.1, s.2.2.1, s.2.2.2.1, s.2.2.2.2.1, s.2.2.2.2.2.1, s.2.2.2.2.2.2.1, s.2.2.2.2.2.2.2.1, a, s.2.2.2.2.2.2.2.2)))
    (tRt (tOp1 (fun x => some ((fun x : (List Int) × (List (Int × Int)) × Unit => (x.1, x.2.1)) x)) (tPr (tV (fun s : D × Int × Int × Int × Int × (List Int) × (List ((Int × Int) × Bool)) × Int × (List Int) × Unit => s.2.2.2.2.2.1)) (tPr (tOp1 (fun a : (List (Int × Int)) => some a) (tOp1 (fun a => some (sortP a)) (tLm (fun s => some (((fun s : D × Int × Int × Int × Int × (List Int) × (List ((Int × Int) × Bool)) × Int × (List Int) × Unit => s.2.2.2.2.2.2.1) s).map (·.1))) (fun (x : (Int × Int)) (s : D × Int × Int × Int × Int × (List Int) × (List ((Int × Int) × Bool)) × Int × (List Int) × Unit) => ((fun (a : Int) (s : D × Int × Int × Int × Int × (List Int) × (List ((Int × Int) × Bool)) × Int × Int × (List Int) × Unit) => (s.1, s.2.1, s.2.2.1, s.2.2.2.1, s.2.2.2.2.1, s.2.2.2.2.2.1, s.2.2.2.2.2.2.1, s.2.2.2.2.2.2.2.1, a, s.2.2.2.2.2.2.2.2)) x.2 ((fun (a : Int) (s : D × Int × Int × Int × Int × (List Int) × (List ((Int × Int) × Bool)) × Int × (List Int) × Unit) => (s.1, s.2.1, s.2.2.1, s.2.2.2.1, s.2.2.2.2.1, s.2.2.2.2.2.1, s.2.2.2.2.2.2.1, s.2.2.2.2.2.2.2.1, a, s.2.2.2.2.2.2.2.2)) x.1 s))) (tOp1 (fun x => some (tS2 x)) (tPr (tOp2 tIx (tV (fun s : D × Int × Int × Int × Int × (List Int) × (List ((Int × Int) × Bool)) × Int × Int × Int × (List Int) × Unit => s.2.2.2.2.2.2.2.2.2.2.1)) (tV (fun s : D × Int × Int × Int × Int × (List Int) × (List ((Int × Int) × Bool)) × Int × Int × Int × (List Int) × Unit => s.2.2.2.2.2.2.2.2.2.1))) (tPr (tOp2 tIx (tV (fun s : D × Int × Int × Int × Int × (List Int) × (List ((Int × Int) × Bool)) × Int × Int × Int × (List Int) × Unit => s.2.2.2.2.2.2.2.2.2.2.1)) (tV (fun s : D × Int × Int × Int × Int × (List Int) × (List ((Int × Int) × Bool)) × Int × Int × Int × (List Int) × Unit => s.2.2.2.2.2.2.2.2.1))) (tK (σ := D × Int × Int × Int × Int × (List Int) × (List ((Int × Int) × Bool)) × Int × Int × Int × (List Int) × Unit) ()))))))) (tK (σ := D × Int × Int × Int × Int × (List Int) × (List ((Int × Int) × Bool)) × Int × (List Int) × Unit) ())))) (fun s : D × Int × Int × Int × Int × (List Int) × (List ((Int × Int) × Bool)) × Int × (List Int) × Unit => (s.1, ()))))))))))
theorem t__law_land : TFI D__law_land eD (eCons eI eNil) (eP (eT eI) (eT (eP eI eI))) 0 0 F__law_land := by
  have h := (tfi_run (R' := Rn) (m := 1) (vn := none) (in_c (in_a (in_a (in_a (in_a (in_a (in_a (in_a (in_a (in_a (in_a in_0))))))))))) (ts_seq (ts_par (tx_bin on_add (td_E ((te_p0 tp_k)).x (tx_io t__law_drop g0 ((ta_cons (te_p0 (tp_bin o_sub (tp_v (gv g0)) tp_k)) ta_nil)).x g0 p0v))) (tx_io t__law_drop g0 ((ta_cons (te_p0 tp_k) ta_nil)).x g0 p0v) (pv (pv p0a)) (pv (pv (pv p0a))))
    (ts_seq (ts_asgX (tx_ix (oi_L1 (h1 := 1)) (td_E ((te_lst (e := (eL eI)) (m := (fun x : Int × Int × Int × Int × Unit => [x.1, x.2.1, x.2.2.1, x.2.2.2.1])) (k := 4) (ta_cons (te_p0 tp_k) (ta_cons (te_p0 tp_k) (ta_cons (te_p0 tp_k) (ta_cons (te_p0 tp_k) ta_nil)))))).x (tx_io t__law_drop g0 ((ta_cons (te_p0 tp_k) ta_nil)).x g0 p0v))) (pv (pv (pv (pv p0a)))))
    (ts_seq (ts_par3 (tx_c1 (oc_tupleL (h1 := 1)) (tx_lc (Rw := (Rv eD 2 2 (Rv eI 0 0 (Rv eI 0 0 (Rv eI 0 0 (Rv eI 0 0 (Ra (Ra (Ra (Ra (Ra (Ra (Ra Rn))))))))))))) (ti_r1 (tp_v (gv (gv g0)))) (wp_c wp_n (rv (rv (rv (rv (rv (ra (ra (ra r0a))))))))) (tg_name (pv (pv (pv (pv (pv (pa (pa (pa p0a))))))))) (tt_yes).x (wp_c wp_n (rv (rv (rv (rv (rv (ra (ra (ra r0v))))))))) (tx_io t__law_drop g0 ((ta_cons (te_v (fv (fv (fv (fv f0))))) ta_nil)).x g0 p0v) (wp_c wp_n (rv (rv (rv (rv (rv (ra (ra (ra r0v))))))))) (rs_c rs_n (rv (rv (rv (rv (rv (ra (ra (ra r0a))))))))))) (te_dic).x (tx_bin on_add (td_E ((te_p0 tp_k)).x (tx_io t__law_drop g0 ((ta_cons (te_p0 tp_k) ta_nil)).x g0 p0v))) (pv (pv (pv (pv (pv p0a))))) (pv (pv (pv (pv (pv (pv p0a)))))) (pv (pv (pv (pv (pv (pv (pv p0a))))))))
    (ts_seq (ts_for (R := (Rv eD 2 2 (Rv eI 0 0 (Rv eI 0 0 (Rv eI 0 0 (Rv eI 0 0 (Rv (eT eI) 0 0 (Rv (eDc kII eB) 1 1 (Rv eI 0 0 (Ra (Ra (Ra (Ra Rn))))))))))))) (ti_r2 tp_k (tp_v (gv (gv g0)))) (wv (wv (wv (wv (wv (wv (wv (wv (wa (wa (wa (wa wn)))))))))))) (tg_name (pv (pv (pv (pv (pv (pv (pv (pv p0a))))))))) t__law_land_l1)
    (ts_seq (ts_if (tt_and (tt_cmp (on_2 (o_eq ok_I)) (td_P (tp_v (gv (gv (gv g0)))) tp_k)) (tt_cmp (on_2 o_gt) (td_P (tp_v (gv (gv g0))) tp_k)) (wv (wv (wv (wv (wv (wv (wv (wv (wa (wa (wa (wa wn))))))))))))) (ts_put kII_inj ((te_p0 tp_k)).x (gv (gv (gv (gv (gv (gv g0)))))) (tk_2 tp_k (tp_bin o_sub (tp_v (gv (gv g0))) tp_k)) (gv (gv (gv (gv (gv (gv g0)))))) (pv (pv (pv (pv (pv (pv p0v))))))) ts_nil)
    (ts_seq (ts_for (R := (Rv eD 2 2 (Rv eI 0 0 (Rv eI 0 0 (Rv eI 0 0 (Rv eI 0 0 (Rv (eT eI) 0 0 (Rv (eDc kII eB) 1 1 (Rv eI 0 0 (Ra (Ra (Ra (Ra Rn))))))))))))) (ti_r1 (tp_v (gv (gv g0)))) (wv (wv (wv (wv (wv (wv (wv (wv (wa (wa (wa (wa wn)))))))))))) (tg_name (pv (pv (pv (pv (pv (pv (pv (pv (pa p0a)))))))))) t__law_land_l2)
    (ts_seq (ts_asgX (tx_io t__law_order g0 ((ta_cons (te_v (fv (fv f0))) ta_nil)).x g0 p0v) (pv (pv (pv (pv (pv (pv (pv (pv (pa (pa (pa p0a))))))))))))
    (ts_ret (te_tup (e := (eP (eT eI) (eT (eP eI eI)))) (m := (fun x : (List Int) × (List (Int × Int)) × Unit => (x.1, x.2.1))) (k := 2) (ta_cons (te_v (fv (fv (fv (fv (fv f0)))))) (ta_cons (te_c1 (oc_tupleL (h1 := 1)) (te_c1 oc_sortP (te_lm (Rw := (Rv eD 2 2 (Rv eI 0 0 (Rv eI 0 0 (Rv eI 0 0 (Rv eI 0 0 (Rv (eT eI) 0 0 (Rv (eDc kII eB) 0 0 (Rv eI 0 0 (Ra (Ra (Ra (Rv (eT eI) 0 0 Rn))))))))))))) (ti_dic (ek := kII) (gv (gv (gv (gv (gv (gv g0)))))) (pv (pv (pv (pv (pv (pv p0v))))))) (wp_c (wp_c wp_n (rv (rv (rv (rv (rv (rv (rv (rv (ra r0a)))))))))) (rv (rv (rv (rv (rv (rv (rv (rv (ra (ra r0a))))))))))) (tg_2 (tg_name (pv (pv (pv (pv (pv (pv (pv (pv (pa (pa p0a))))))))))) (tg_name (pv (pv (pv (pv (pv (pv (pv (pv (pa p0a))))))))))) (te_s2 (ta_cons (te_p0 (tp_ixT (tp_v (gv (gv (gv (gv (gv (gv (gv (gv (ga (gv (gv g0)))))))))))) (tp_v (gv (gv (gv (gv (gv (gv (gv (gv (ga (gv g0))))))))))))) (ta_cons (te_p0 (tp_ixT (tp_v (gv (gv (gv (gv (gv (gv (gv (gv (ga (gv (gv g0)))))))))))) (tp_v (gv (gv (gv (gv (gv (gv (gv (gv (ga g0)))))))))))) ta_nil))) (wp_c (wp_c wp_n (rv (rv (rv (rv (rv (rv (rv (rv (ra r0v)))))))))) (rv (rv (rv (rv (rv (rv (rv (rv (ra (ra r0v))))))))))) (rs_c (rs_c rs_n (rv (rv (rv (rv (rv (rv (rv (rv (ra r0a)))))))))) (rv (rv (rv (rv (rv (rv (rv (rv (ra (ra r0a)))))))))))))) ta_nil))) (wv wt))))))))) : TFI D__law_land eD (eCons eI eNil) (eP (eT eI) (eT (eP eI eI))) 0 0 _)
  exact h
/-! _law_near : P(T(I),T(P(I,I))), I to L(I) -/
noncomputable def F__law_near : ((List Int) × (List (Int × Int))) × Int × Unit → Option (List Int) := tRun (σ' := Unit) none (tRt (tLc (tOp1 tRg (tOp1 (fun a : (List Int) => some (a.length : Int)) (tOp1 (fun x => some ((fun x : ((List Int) × (List (Int × Int))) => x.1) x)) (tV (fun s : ((List Int) × (List (Int × Int))) × Int × Unit => s.1))))) (fun (a : Int) (s : ((List Int) × (List (Int × Int))) × Int × Unit) => (s.1, s.2.1, a, s.2.2)) (tBn tIn (tPr (tOp1 (fun x => some ((fun x : Int × Int × Unit => (x.1, x.2.1)) x)) (tPr (tOp2 (fun a b : Int => some (min a b)) (tV (fun s : ((List Int) × (List (Int × Int))) × Int × Int × Unit => s.2.2.1)) (tV (fun s : ((List Int) × (List (Int × Int))) × Int × Int × Unit => s.2.1))) (tPr (tOp2 (fun a b : Int => some (max a b)) (tV (fun s : ((List Int) × (List (Int × Int))) × Int × Int × Unit => s.2.2.1)) (tV (fun s : ((List Int) × (List (Int × Int))) × Int × Int × Unit => s.2.1))) (tK (σ := ((List Int) × (List (Int × Int))) × Int × Int × Unit) ())))) (tOp1 (fun x => some ((fun x : ((List Int) × (List (Int × Int))) => x.2) x)) (tV (fun s : ((List Int) × (List (Int × Int))) × Int × Int × Unit => s.1))))) (tV (fun s : ((List Int) × (List (Int × Int))) × Int × Int × Unit => s.2.2.1))) (fun _ : ((List Int) × (List (Int × Int))) × Int × Unit => ()))
theorem t__law_near : TF D__law_near (eCons (eP (eT eI) (eT (eP eI eI))) (eCons eI eNil)) (eL eI) 1 1 F__law_near := by
  have h := (tf_run (R' := Rn) (m := 2) (vn := none) (wn := (fun _ h => nomatch h)) (in_c (in_c (in_a in_0))) (ts_ret (te_lc (Rw := (Rv (eP (eT eI) (eT (eP eI eI))) 0 0 (Rv eI 0 0 (Ra Rn)))) (ti_r1 (tp_c1 o_lenT (tp_ixC (e := (eT eI)) (g := (fun x : ((List Int) × (List (Int × Int))) => x.1)) (tp_v g0)))) (wp_c wp_n (rv (rv r0a))) (tg_name (pv (pv p0a))) (tt_cmp (on_2 (o_inT (ok_P ok_I ok_I))) (td_Ep (te_tup (e := (eP eI eI)) (m := (fun x : Int × Int × Unit => (x.1, x.2.1))) (k := 2) (ta_cons (te_p0 (tp_c2 o_min (tp_v (gv (gv g0))) (tp_v (gv g0)))) (ta_cons (te_p0 (tp_c2 o_max (tp_v (gv (gv g0))) (tp_v (gv g0)))) ta_nil))) (te_p1 (tp_ixC (e := (eT (eP eI eI))) (g := (fun x : ((List Int) × (List (Int × Int))) => x.2)) (tp_v g0))))) (wp_c wp_n (rv (rv r0v))) (te_v (fv (fv f0))) (wp_c wp_n (rv (rv r0v))) (rs_c rs_n (rv (rv r0a)))) wt) : TF D__law_near (eCons (eP (eT eI) (eT (eP eI eI))) (eCons eI eNil)) (eL eI) 1 1 _)
  exact h
/-! _law_reached : P(T(I),T(P(I,I))), T(I), I to T(I) -/
noncomputable def F__law_reached_l1 : ((List Int) × (List (Int × Int))) × (List Int) × Int × (List Int) × Int × Unit → Option (Fo (List Int) (Unit) (((List Int) × (List (Int × Int))) × (List Int) × Int × (List Int) × Int × Unit) (((List Int) × (List (Int × Int))) × (List Int) × Int × (List Int) × Int × Unit)) := (tSeq (tAsg (tBn tCat (tPr (tV (fun s : ((List Int) × (List (Int × Int))) × (List Int) × Int × (List Int) × Int × Unit => s.2.2.2.1)) (tLc (tOp1 F__law_near (tPr (tV (fun s : ((List Int) × (List (Int × Int))) × (List Int) × Int × (List Int) × Int × Unit => s.1)) (tPr (tOp2 tIx (tV (fun s : ((List Int) × (List (Int × Int))) × (List Int) × Int × (List Int) × Int × Unit => s.2.2.2.1)) (tV (fun s : ((List Int) × (List (Int × Int))) × (List Int) × Int × (List Int) × Int × Unit => s.2.2.2.2.1))) (tK (σ := ((List Int) × (List (Int × Int))) × (List Int) × Int × (List Int) × Int × Unit) ())))) (fun (a : Int) (s : ((List Int) × (List (Int × Int))) × (List Int) × Int × (List Int) × Int × Unit) => (s.1, s.2.1, s.2.2.1, s.2.2.2.1, s.2.2.2.2.1, a, s.2.2.2.2.2)) (tAnd (tBn tIn (tPr (tV (fun s : ((List Int) × (List (Int × Int))) × (List Int) × Int × (List Int) × Int × Int × Unit => s.2.2.2.2.2.1)) (tV (fun s : ((List Int) × (List (Int × Int))) × (List Int) × Int × (List Int) × Int × Int × Unit => s.2.1)))) (tBn tNi (tPr (tV (fun s : ((List Int) × (List (Int × Int))) × (List Int) × Int × (List Int) × Int × Int × Unit => s.2.2.2.2.2.1)) (tV (fun s : ((List Int) × (List (Int × Int))) × (List Int) × Int × (List Int) × Int × Int × Unit => s.2.2.2.1))))) (tV (fun s : ((List Int) × (List (Int × Int))) × (List Int) × Int × (List Int) × Int × Int × Unit => s.2.2.2.2.2.1))))) (fun (a : (List Int)) (s : ((List Int) × (List (Int × Int))) × (List Int) × Int × (List Int) × Int × Unit) => (s.1, s.2.1, s.2.2.1, a, s.2.2.2.2)))
    (tAsg (tOp2 (fun a b => some (a + b)) (tV (fun s : ((List Int) × (List (Int × Int))) × (List Int) × Int × (List Int) × Int × Unit => s.2.2.2.2.1)) (tK (σ := ((List Int) × (List (Int × Int))) × (List Int) × Int × (List Int) × Int × Unit) (1 : Int))) (fun (a : Int) (s : ((List Int) × (List (Int × Int))) × (List Int) × Int × (List Int) × Int × Unit) => (s.1, s.2.1, s.2.2.1, s.2.2.2.1, a, s.2.2.2.2.2))))
theorem t__law_reached_l1 : TS (Rv (eP (eT eI) (eT (eP eI eI))) 0 0 (Rv (eT eI) 0 0 (Rv eI 0 0 (Rv (eL eI) 1 1 (Rv eI 0 0 (Ra Rn)))))) f__law_reached_w1 (eT eI) 0 0 Rn (Rv (eP (eT eI) (eT (eP eI eI))) 0 0 (Rv (eT eI) 0 0 (Rv eI 0 0 (Rv (eL eI) 1 1 (Rv eI 0 0 (Ra Rn)))))) F__law_reached_l1 (Rv (eP (eT eI) (eT (eP eI eI))) 0 0 (Rv (eT eI) 0 0 (Rv eI 0 0 (Rv (eL eI) 1 1 (Rv eI 0 0 (Ra Rn)))))) := by
  have h := ((ts_seq (ts_asg (te_bin (on_catL (h1 := 0) (h2 := 1)) (td_Ep (te_v (fv (fv (fv f0)))) (te_lc (Rw := (Rv (eP (eT eI) (eT (eP eI eI))) 0 0 (Rv (eT eI) 0 0 (Rv eI 0 0 (Rv (eL eI) 0 0 (Rv eI 0 0 (Ra Rn))))))) (ti_L (te_call t__law_near (ta_cons (te_v f0) (ta_cons (te_p0 (tp_ixL (tp_v (gv (gv (gv g0)))) (tp_v (gv (gv (gv (gv g0))))))) ta_nil)))) (wp_c wp_n (rv (rv (rv (rv (rv r0a)))))) (tg_name (pv (pv (pv (pv (pv p0a)))))) (tt_and (tt_cmp (on_2 (o_inT ok_I)) (td_P (tp_v (gv (gv (gv (gv (gv g0)))))) (tp_v (gv g0)))) (tt_cmp (on_2 (o_niL ok_I)) (td_P (tp_v (gv (gv (gv (gv (gv g0)))))) (tp_v (gv (gv (gv g0)))))) (wv (wv (wv (wv (wv (wv wn))))))) (wp_c wp_n (rv (rv (rv (rv (rv r0v)))))) (te_v (fv (fv (fv (fv (fv f0)))))) (wp_c wp_n (rv (rv (rv (rv (rv r0v)))))) (rs_c rs_n (rv (rv (rv (rv (rv r0a))))))))) (pv (pv (pv p0v))))
    (ts_asg (te_p0 (tp_bin o_add (tp_v (gv (gv (gv (gv g0))))) tp_k)) (pv (pv (pv (pv p0v)))))) : TS (Rv (eP (eT eI) (eT (eP eI eI))) 0 0 (Rv (eT eI) 0 0 (Rv eI 0 0 (Rv (eL eI) 1 1 (Rv eI 0 0 (Ra Rn)))))) f__law_reached_w1 (eT eI) 0 0 Rn (Rv (eP (eT eI) (eT (eP eI eI))) 0 0 (Rv (eT eI) 0 0 (Rv eI 0 0 (Rv (eL eI) 1 1 (Rv eI 0 0 (Ra Rn)))))) _ (Rv (eP (eT eI) (eT (eP eI eI))) 0 0 (Rv (eT eI) 0 0 (Rv eI 0 0 (Rv (eL eI) 1 1 (Rv eI 0 0 (Ra Rn)))))))
  exact h
noncomputable def F__law_reached_l1_t : ((List Int) × (List (Int × Int))) × (List Int) × Int × (List Int) × Int × Unit → Option Bool := (tBn (fun a b : Int => some (decide (a < b))) (tPr (tV (fun s : ((List Int) × (List (Int × Int))) × (List Int) × Int × (List Int) × Int × Unit => s.2.2.2.2.1)) (tOp1 (fun a : (List Int) => some (a.length : Int)) (tV (fun s : ((List Int) × (List (Int × Int))) × (List Int) × Int × (List Int) × Int × Unit => s.2.2.2.1)))))
noncomputable def F__law_reached : ((List Int) × (List (Int × Int))) × (List Int) × Int × Unit → Option (List Int) := tRun (σ' := Unit) none (tSeq (tPar (tX (tOp1 (fun x => some ((fun x : Int × Unit => [x.1]) x)) (tPr (tV (fun s : ((List Int) × (List (Int × Int))) × (List Int) × Int × Unit => s.2.2.1)) (tK (σ := ((List Int) × (List (Int × Int))) × (List Int) × Int × Unit) ())))) (tX (tK (σ := ((List Int) × (List (Int × Int))) × (List Int) × Int × Unit) (0 : Int))) (fun (a : (List Int)) (s : ((List Int) × (List (Int × Int))) × (List Int) × Int × Unit) => (s.1, s.2.1, s.2.2.1, a, s.2.2.2)) (fun (a : Int) (s : ((List Int) × (List (Int × Int))) × (List Int) × Int × (List Int) × Unit) => (s.1, s.2.1, s.2.2.1, s.2.2.2.1, a, s.2.2.2.2)))
    (tSeq (fun s => tWhile F__law_reached_l1_t F__law_reached_l1 fuel ((fun s : ((List Int) × (List (Int × Int))) × (List Int) × Int × (List Int) × Int × Unit => s) s))
    (tRt (tOp1 (fun a : (List Int) => some a) (tOp1 (fun a => some (sortI a)) (tV (fun s : ((List Int) × (List (Int × Int))) × (List Int) × Int × (List Int) × Int × Unit => s.2.2.2.1)))) (fun _ : ((List Int) × (List (Int × Int))) × (List Int) × Int × (List Int) × Int × Unit => ()))))
theorem t__law_reached : TF D__law_reached (eCons (eP (eT eI) (eT (eP eI eI))) (eCons (eT eI) (eCons eI eNil))) (eT eI) 0 0 F__law_reached := by
  have h := (tf_run (R' := Rn) (m := 3) (vn := none) (wn := (fun _ h => nomatch h)) (in_c (in_c (in_c (in_a (in_a (in_a in_0)))))) (ts_seq (ts_par ((te_lst (e := (eL eI)) (m := (fun x : Int × Unit => [x.1])) (k := 1) (ta_cons (te_v (fv (fv f0))) ta_nil))).x ((te_p0 tp_k)).x (pv (pv (pv p0a))) (pv (pv (pv (pv p0a)))))
    (ts_seq (ts_while (R := (Rv (eP (eT eI) (eT (eP eI eI))) 0 0 (Rv (eT eI) 0 0 (Rv eI 0 0 (Rv (eL eI) 1 1 (Rv eI 0 0 (Ra Rn))))))) (C := F__law_reached_l1_t) (wv (wv (wv (wv (wv (wa wn)))))) (tt_cmp (on_2 o_lt) (td_P (tp_v (gv (gv (gv (gv g0))))) (tp_c1 o_lenL (tp_v (gv (gv (gv g0))))))) t__law_reached_l1 (wv (wv (wv (wv (wv (wa wn)))))))
    (ts_ret (te_c1 (oc_tupleL (h1 := 1)) (te_c1p oc_sortI (tp_v (gv (gv (gv g0)))))) wt))) : TF D__law_reached (eCons (eP (eT eI) (eT (eP eI eI))) (eCons (eT eI) (eCons eI eNil))) (eT eI) 0 0 _)
  exact h
/-! _law_pieces : P(T(I),T(P(I,I))), T(I) to T(T(I)) -/
noncomputable def F__law_pieces_l1 : ((List Int) × (List (Int × Int))) × (List Int) × (List (List Int)) × (List Int) × Unit → Option (Fo (List (List Int)) (Unit) (((List Int) × (List (Int × Int))) × (List Int) × (List (List Int)) × (List Int) × Unit) (((List Int) × (List (Int × Int))) × (List Int) × (List (List Int)) × (List Int) × Unit)) := (tSeq (tAppS (tX (tOp1 F__law_reached (tPr (tV (fun s : ((List Int) × (List (Int × Int))) × (List Int) × (List (List Int)) × (List Int) × Unit => s.1)) (tPr (tV (fun s : ((List Int) × (List (Int × Int))) × (List Int) × (List (List Int)) × (List Int) × Unit => s.2.1)) (tPr (tOp2 tIx (tV (fun s : ((List Int) × (List (Int × Int))) × (List Int) × (List (List Int)) × (List Int) × Unit => s.2.2.2.1)) (tK (σ := ((List Int) × (List (Int × Int))) × (List Int) × (List (List Int)) × (List Int) × Unit) (0 : Int))) (tK (σ := ((List Int) × (List (Int × Int))) × (List Int) × (List (List Int)) × (List Int) × Unit) ())))))) (fun s : ((List Int) × (List (Int × Int))) × (List Int) × (List (List Int)) × (List Int) × Unit => s.2.2.1) (fun (a : (List (List Int))) (s : ((List Int) × (List (Int × Int))) × (List Int) × (List (List Int)) × (List Int) × Unit) => (s.1, s.2.1, a, s.2.2.2)))
    (tAsg (tLc (tV (fun s : ((List Int) × (List (Int × Int))) × (List Int) × (List (List Int)) × (List Int) × Unit => s.2.2.2.1)) (fun (a : Int) (s : ((List Int) × (List (Int × Int))) × (List Int) × (List (List Int)) × (List Int) × Unit) => (s.1, s.2.1, s.2.2.1, s.2.2.2.1, a, s.2.2.2.2)) (tBn tNi (tPr (tV (fun s : ((List Int) × (List (Int × Int))) × (List Int) × (List (List Int)) × (List Int) × Int × Unit => s.2.2.2.2.1)) (tOp2 tIx (tV (fun s : ((List Int) × (List (Int × Int))) × (List Int) × (List (List Int)) × (List Int) × Int × Unit => s.2.2.1)) (tOp1 (fun x : Int => some (-x)) (tK (σ := ((List Int) × (List (Int × Int))) × (List Int) × (List (List Int)) × (List Int) × Int × Unit) (1 : Int)))))) (tV (fun s : ((List Int) × (List (Int × Int))) × (List Int) × (List (List Int)) × (List Int) × Int × Unit => s.2.2.2.2.1))) (fun (a : (List Int)) (s : ((List Int) × (List (Int × Int))) × (List Int) × (List (List Int)) × (List Int) × Unit) => (s.1, s.2.1, s.2.2.1, a, s.2.2.2.2))))
theorem t__law_pieces_l1 : TS (Rv (eP (eT eI) (eT (eP eI eI))) 0 0 (Rv (eT eI) 0 0 (Rv (eL (eT eI)) 1 1 (Rv (eL eI) 1 1 (Ra Rn))))) f__law_pieces_w1 (eT (eT eI)) 0 0 Rn (Rv (eP (eT eI) (eT (eP eI eI))) 0 0 (Rv (eT eI) 0 0 (Rv (eL (eT eI)) 1 1 (Rv (eL eI) 1 1 (Ra Rn))))) F__law_pieces_l1 (Rv (eP (eT eI) (eT (eP eI eI))) 0 0 (Rv (eT eI) 0 0 (Rv (eL (eT eI)) 1 1 (Rv (eL eI) 1 1 (Ra Rn))))) := by
  have h := ((ts_seq (ts_app (gv (gv g0)) ((te_call t__law_reached (ta_cons (te_v f0) (ta_cons (te_v (fv f0)) (ta_cons (te_p0 (tp_ixL (tp_v (gv (gv (gv g0)))) tp_k)) ta_nil))))).x (gv (gv g0)) (pv (pv p0v)))
    (ts_asg (te_lc (Rw := (Rv (eP (eT eI) (eT (eP eI eI))) 0 0 (Rv (eT eI) 0 0 (Rv (eL (eT eI)) 1 1 (Rv (eL eI) 0 0 (Ra Rn)))))) (ti_L (te_v (fv (fv (fv f0))))) (wp_c wp_n (rv (rv (rv (rv r0a))))) (tg_name (pv (pv (pv (pv p0a))))) (tt_cmp (on_2 (o_niT ok_I)) (td_P (tp_v (gv (gv (gv (gv g0))))) (tp_ixL (tp_v (gv (gv g0))) (tp_neg tp_k)))) (wp_c wp_n (rv (rv (rv (rv r0v))))) (te_v (fv (fv (fv (fv f0))))) (wp_c wp_n (rv (rv (rv (rv r0v))))) (rs_c rs_n (rv (rv (rv (rv r0a)))))) (pv (pv (pv p0v))))) : TS (Rv (eP (eT eI) (eT (eP eI eI))) 0 0 (Rv (eT eI) 0 0 (Rv (eL (eT eI)) 1 1 (Rv (eL eI) 1 1 (Ra Rn))))) f__law_pieces_w1 (eT (eT eI)) 0 0 Rn (Rv (eP (eT eI) (eT (eP eI eI))) 0 0 (Rv (eT eI) 0 0 (Rv (eL (eT eI)) 1 1 (Rv (eL eI) 1 1 (Ra Rn))))) _ (Rv (eP (eT eI) (eT (eP eI eI))) 0 0 (Rv (eT eI) 0 0 (Rv (eL (eT eI)) 1 1 (Rv (eL eI) 1 1 (Ra Rn))))))
  exact h
noncomputable def F__law_pieces_l1_t : ((List Int) × (List (Int × Int))) × (List Int) × (List (List Int)) × (List Int) × Unit → Option Bool := (tBn tNe (tPr (tV (fun s : ((List Int) × (List (Int × Int))) × (List Int) × (List (List Int)) × (List Int) × Unit => s.2.2.2.1)) (tK (σ := ((List Int) × (List (Int × Int))) × (List Int) × (List (List Int)) × (List Int) × Unit) ([] : (List Int)))))
noncomputable def F__law_pieces : ((List Int) × (List (Int × Int))) × (List Int) × Unit → Option (List (List Int)) := tRun (σ' := Unit) none (tSeq (tPar (tX (tOp1 (fun x => some ((fun _ : Unit => ([] : (List (List Int)))) x)) (tK (σ := ((List Int) × (List (Int × Int))) × (List Int) × Unit) ()))) (tX (tOp1 (fun a : (List Int) => some a) (tV (fun s : ((List Int) × (List (Int × Int))) × (List Int) × Unit => s.2.1)))) (fun (a : (List (List Int))) (s : ((List Int) × (List (Int × Int))) × (List Int) × Unit) => (s.1, s.2.1, a, s.2.2)) (fun (a : (List Int)) (s : ((List Int) × (List (Int × Int))) × (List Int) × (List (List Int)) × Unit) => (s.1, s.2.1, s.2.2.1, a, s.2.2.2)))
    (tSeq (fun s => tWhile F__law_pieces_l1_t F__law_pieces_l1 fuel ((fun s : ((List Int) × (List (Int × Int))) × (List Int) × (List (List Int)) × (List Int) × Unit => s) s))
    (tRt (tOp1 (fun a : (List (List Int)) => some a) (tV (fun s : ((List Int) × (List (Int × Int))) × (List Int) × (List (List Int)) × (List Int) × Unit => s.2.2.1))) (fun _ : ((List Int) × (List (Int × Int))) × (List Int) × (List (List Int)) × (List Int) × Unit => ()))))
theorem t__law_pieces : TF D__law_pieces (eCons (eP (eT eI) (eT (eP eI eI))) (eCons (eT eI) eNil)) (eT (eT eI)) 0 0 F__law_pieces := by
  have h := (tf_run (R' := Rn) (m := 2) (vn := none) (wn := (fun _ h => nomatch h)) (in_c (in_c (in_a (in_a (in_a in_0))))) (ts_seq (ts_par ((te_lst (e := (eL (eT eI))) (m := (fun _ : Unit => ([] : (List (List Int))))) (k := 0) ta_nil)).x ((te_c1p oc_listT (tp_v (gv g0)))).x (pv (pv p0a)) (pv (pv (pv p0a))))
    (ts_seq (ts_while (R := (Rv (eP (eT eI) (eT (eP eI eI))) 0 0 (Rv (eT eI) 0 0 (Rv (eL (eT eI)) 1 1 (Rv (eL eI) 1 1 (Ra Rn)))))) (C := F__law_pieces_l1_t) (wv (wv (wv (wv (wa wn))))) (tt_cmp (on_2 (o_ne (ok_L ok_I))) (td_P (tp_v (gv (gv (gv g0)))) tp_nilL)) t__law_pieces_l1 (wv (wv (wv (wv (wa wn))))))
    (ts_ret (te_c1p (oc_tupleL (h1 := 1)) (tp_v (gv (gv g0)))) wt))) : TF D__law_pieces (eCons (eP (eT eI) (eT (eP eI eI))) (eCons (eT eI) eNil)) (eT (eT eI)) 0 0 _)
  exact h
/-! _law_plan : SP, P(T(I),T(P(I,I))) to T(T(I)) -/
noncomputable def F__law_plan_k1 : D × ((List Int) × (List (Int × Int))) × Int × Unit → Option ((List (Int × Int)) × (D × ((List Int) × (List (Int × Int))) × Int × Unit)) := tLx (tOp1 (fun x => some ((fun x : ((List Int) × (List (Int × Int))) => x.2) x)) (tV (fun s : D × ((List Int) × (List (Int × Int))) × Int × Unit => s.2.1))) (fun (a : (Int × Int)) (s : D × ((List Int) × (List (Int × Int))) × Int × Unit) => (s.1, s.2.1, s.2.2.1, a, s.2.2.2)) (tBnX (fun a b : Int => some (decide (b < a))) (tPrX (tIO (fun s : D × ((List Int) × (List (Int × Int))) × Int × (Int × Int) × Unit => s.1) (fun (a : D) (s : D × ((List Int) × (List (Int × Int))) × Int × (Int × Int) × Unit) => (a, s.2)) F__law_drop (tX (tPr (tOp2 (fun a b => some (a + b)) (tV (fun s : D × ((List Int) × (List (Int × Int))) × Int × (Int × Int) × Unit => s.2.2.1)) (tK (σ := D × ((List Int) × (List (Int × Int))) × Int × (Int × Int) × Unit) (1 : Int))) (tK (σ := D × ((List Int) × (List (Int × Int))) × Int × (Int × Int) × Unit) ())))) (tX (tK (σ := D × ((List Int) × (List (Int × Int))) × Int × (Int × Int) × Unit) (0 : Int))))) (tX (tV (fun s : D × ((List Int) × (List (Int × Int))) × Int × (Int × Int) × Unit => s.2.2.2.1))) (fun s : D × ((List Int) × (List (Int × Int))) × Int × (Int × Int) × Unit => ((fun s : D × ((List Int) × (List (Int × Int))) × Int × (Int × Int) × Unit => (s.1, s.2.1, s.2.2.1, s.2.2.2.2)) s)) (fun s : D × ((List Int) × (List (Int × Int))) × Int × (Int × Int) × Unit => ((fun s : D × ((List Int) × (List (Int × Int))) × Int × (Int × Int) × Unit => (s.1, s.2.1, s.2.2.1, s.2.2.2.2)) s))
noncomputable def F__law_plan : D × ((List Int) × (List (Int × Int))) × Unit → Option ((List (List Int)) × D) := tRunI (σ' := Unit) (vn := none) (tSeq (tAsgX (tBnX (fun a b : Int => some (a + b)) (tPrX (tX (tK (σ := D × ((List Int) × (List (Int × Int))) × Unit) (1 : Int))) (tIO (fun s : D × ((List Int) × (List (Int × Int))) × Unit => s.1) (fun (a : D) (s : D × ((List Int) × (List (Int × Int))) × Unit) => (a, s.2)) F__law_drop (tX (tPr (tK (σ := D × ((List Int) × (List (Int × Int))) × Unit) (4 : Int)) (tK (σ := D × ((List Int) × (List (Int × Int))) × Unit) ())))))) (fun (a : Int) (s : D × ((List Int) × (List (Int × Int))) × Unit) => (s.1, s.2.1, a, s.2.2)))
    (tSeq (tAsgX (fun s => (F__law_plan_k1 s).bind fun p => ((fun a : (List (Int × Int)) => some a) p.1).map fun c => (c, p.2)) (fun (a : (List (Int × Int))) (s : D × ((List Int) × (List (Int × Int))) × Int × Unit) => (s.1, s.2.1, s.2.2.1, a, s.2.2.2)))
    (tRt (tOp1 F__law_pieces (tPr (tOp1 (fun x => some ((fun x : (List Int) × (List (Int × Int)) × Unit => (x.1, x.2.1)) x)) (tPr (tOp1 (fun x => some ((fun x : ((List Int) × (List (Int × Int))) => x.1) x)) (tV (fun s : D × ((List Int) × (List (Int × Int))) × Int × (List (Int × Int)) × Unit => s.2.1))) (tPr (tV (fun s : D × ((List Int) × (List (Int × Int))) × Int × (List (Int × Int)) × Unit => s.2.2.2.1)) (tK (σ := D × ((List Int) × (List (Int × Int))) × Int × (List (Int × Int)) × Unit) ())))) (tPr (tOp1 tRgN (tOp1 (fun a : (List Int) => some (a.length : Int)) (tOp1 (fun x => some ((fun x : ((List Int) × (List (Int × Int))) => x.1) x)) (tV (fun s : D × ((List Int) × (List (Int × Int))) × Int × (List (Int × Int)) × Unit => s.2.1))))) (tK (σ := D × ((List Int) × (List (Int × Int))) × Int × (List (Int × Int)) × Unit) ())))) (fun s : D × ((List Int) × (List (Int × Int))) × Int × (List (Int × Int)) × Unit => (s.1, ())))))
theorem t__law_plan : TFI D__law_plan eD (eCons (eP (eT eI) (eT (eP eI eI))) eNil) (eT (eT eI)) 0 0 F__law_plan := by
  have h := (tfi_run (R' := Rn) (m := 1) (vn := none) (in_c (in_a (in_a (in_a in_0)))) (ts_seq (ts_asgX (tx_bin on_add (td_E ((te_p0 tp_k)).x (tx_io t__law_drop g0 ((ta_cons (te_p0 tp_k) ta_nil)).x g0 p0v))) (pv (pv p0a)))
    (ts_seq (ts_asgX (tx_c1 (oc_tupleL (h1 := 1)) (tx_lc (Rw := (Rv eD 2 2 (Rv (eP (eT eI) (eT (eP eI eI))) 0 0 (Rv eI 0 0 (Ra (Ra Rn)))))) (ti_T (te_p0 (tp_ixC (e := (eT (eP eI eI))) (g := (fun x : ((List Int) × (List (Int × Int))) => x.2)) (tp_v (gv g0))))) (wp_c wp_n (rv (rv (rv (ra r0a))))) (tg_name (pv (pv (pv (pa p0a))))) (ttx_cmp (on_2 o_gt) (td_E (tx_io t__law_drop g0 ((ta_cons (te_p0 (tp_bin o_add (tp_v (gv (gv g0))) tp_k)) ta_nil)).x g0 p0v) ((te_p1 tp_k)).x)) (wp_c wp_n (rv (rv (rv (ra r0v))))) ((te_v (fv (fv (fv (fa f0)))))).x (wp_c wp_n (rv (rv (rv (ra r0v))))) (rs_c rs_n (rv (rv (rv (ra r0a))))))) (pv (pv (pv p0a))))
    (ts_ret (te_call t__law_pieces (ta_cons (te_tup (e := (eP (eT eI) (eT (eP eI eI)))) (m := (fun x : (List Int) × (List (Int × Int)) × Unit => (x.1, x.2.1))) (k := 2) (ta_cons (te_p0 (tp_ixC (e := (eT eI)) (g := (fun x : ((List Int) × (List (Int × Int))) => x.1)) (tp_v (gv g0)))) (ta_cons (te_v (fv (fv (fv f0)))) ta_nil))) (ta_cons (te_trg (te_p1 (tp_c1 o_lenT (tp_ixC (e := (eT eI)) (g := (fun x : ((List Int) × (List (Int × Int))) => x.1)) (tp_v (gv g0)))))) ta_nil))) (wv wt)))) : TFI D__law_plan eD (eCons (eP (eT eI) (eT (eP eI eI))) eNil) (eT (eT eI)) 0 0 _)
  exact h
/-! is_tuple_of : I, P(T(I),T(P(I,I))) to B -/
noncomputable def F_is_tuple_of : Int × ((List Int) × (List (Int × Int))) × Unit → Option Bool := tRun (σ' := Unit) none (tRt (tAnd (tOp1 (fun _ : ((List Int) × (List (Int × Int))) => some true) (tV (fun s : Int × ((List Int) × (List (Int × Int))) × Unit => s.2.1))) (tOp2 tEq (tOp1 (fun _ : ((List Int) × (List (Int × Int))) => some ((2 : Nat) : Int)) (tV (fun s : Int × ((List Int) × (List (Int × Int))) × Unit => s.2.1))) (tV (fun s : Int × ((List Int) × (List (Int × Int))) × Unit => s.1)))) (fun _ : Int × ((List Int) × (List (Int × Int))) × Unit => ()))
theorem t_is_tuple_of : TF D_is_tuple_of (eCons eI (eCons (eP (eT eI) (eT (eP eI eI))) eNil)) eB 0 0 F_is_tuple_of := by
  have h := (tf_run (R' := Rn) (m := 2) (vn := none) (wn := (fun _ h => nomatch h)) (in_c (in_c in_0)) (ts_ret (te_and (te_p1 (tp_isi (o := fun _ => true) (tp_v (gv g0)) (fun _ => ⟨rfl, by simp [eL, eT, eP, eP3, eP4, isT, isTN, tyN]⟩))) (te_p0 (tp_bin (o_eq ok_I) (tp_c1 (o_lenC (k := 2)) (tp_v (gv g0))) (tp_v g0))) (wv (wv wn))) wt) : TF D_is_tuple_of (eCons eI (eCons (eP (eT eI) (eT (eP eI eI))) eNil)) eB 0 0 _)
  exact h
/-! is_integer : I to B -/
noncomputable def F_is_integer : Int × Unit → Option Bool := tRun (σ' := Unit) none (tRt (tAnd (tOp1 (fun _ : Int => some true) (tV (fun s : Int × Unit => s.1))) (tNot (tOp1 (fun _ : Int => some false) (tV (fun s : Int × Unit => s.1))))) (fun _ : Int × Unit => ()))
theorem t_is_integer : TF D_is_integer (eCons eI eNil) eB 0 0 F_is_integer := by
  have h := (tf_run (R' := Rn) (m := 1) (vn := none) (wn := (fun _ h => nomatch h)) (in_c in_0) (ts_ret (te_and (te_p1 (tp_isi (o := fun _ => true) (tp_v g0) (fun _ => ⟨rfl, by simp [eL, eT, eP, eP3, eP4, isT, isTN, tyN]⟩))) (te_not (te_p1 (tp_isi (o := fun _ => false) (tp_v g0) (fun _ => ⟨rfl, by simp [eL, eT, eP, eP3, eP4, isT, isTN, tyN]⟩)))) (wv wn)) wt) : TF D_is_integer (eCons eI eNil) eB 0 0 _)
  exact h
/-! is_between : I, I, I to B -/
noncomputable def F_is_between : Int × Int × Int × Unit → Option Bool := tRun (σ' := Unit) none (tRt (tAnd (tOp1 F_is_integer (tPr (tV (fun s : Int × Int × Int × Unit => s.2.1)) (tK (σ := Int × Int × Int × Unit) ()))) (tCh (fun a b : Int => some (decide (a ≤ b))) (fun a b : Int => some (decide (a ≤ b))) (tV (fun s : Int × Int × Int × Unit => s.1)) (tV (fun s : Int × Int × Int × Unit => s.2.1)) (tV (fun s : Int × Int × Int × Unit => s.2.2.1)))) (fun _ : Int × Int × Int × Unit => ()))
theorem t_is_between : TF D_is_between (eCons eI (eCons eI (eCons eI eNil))) eB 0 0 F_is_between := by
  have h := (tf_run (R' := Rn) (m := 3) (vn := none) (wn := (fun _ h => nomatch h)) (in_c (in_c (in_c in_0))) (ts_ret (te_and (te_call t_is_integer (ta_cons (te_v (fv f0)) ta_nil)) (te_p0 (tp_chn o_le o_le (tp_v g0) (tp_v (gv g0)) (tp_v (gv (gv g0))))) (wv (wv (wv wn)))) wt) : TF D_is_between (eCons eI (eCons eI (eCons eI eNil))) eB 0 0 _)
  exact h
/-! folk_fault : T(I) to O(T(I)) -/
noncomputable def F_folk_fault_l1 : (List Int) × Int × Int × Unit → Option (Fo (Option (List Int)) (Unit) ((List Int) × Unit) ((List Int) × Unit)) := (tPost (fun s : (List Int) × Int × Int × Unit => (s.1, s.2.2.2)) (tIte (tNot (tOp1 F_is_between (tPr (tK (σ := (List Int) × Int × Int × Unit) (0 : Int)) (tPr (tV (fun s : (List Int) × Int × Int × Unit => s.2.2.1)) (tPr (tK (σ := (List Int) × Int × Int × Unit) (1000000 : Int)) (tK (σ := (List Int) × Int × Int × Unit) ())))))) (tRt (tOp1 (fun a => some ((fun x => some ((fun x : (Int × Int) => [x.1, x.2]) x)) a)) (tOp1 (fun x => some ((fun x : Int × Int × Unit => (x.1, x.2.1)) x)) (tPr (tK (σ := (List Int) × Int × Int × Unit) (0 : Int)) (tPr (tV (fun s : (List Int) × Int × Int × Unit => s.2.1)) (tK (σ := (List Int) × Int × Int × Unit) ()))))) (fun _ : (List Int) × Int × Int × Unit => ())) (tNx (σ := (List Int) × Int × Int × Unit))))
theorem t_folk_fault_l1 : TS (Rv (eT eI) 0 0 (Rv eI 0 0 (Rv eI 0 0 Rn))) f_folk_fault_l1 (eO (eT eI)) 0 0 Rn (Rv (eT eI) 0 0 (Ra (Ra Rn))) F_folk_fault_l1 (Rv (eT eI) 0 0 (Ra (Ra Rn))) := by
  have h := ((ts_post (R2 := (Rv (eT eI) 0 0 (Ra (Ra Rn)))) (ts_if (tt_not (tt_val (te_call t_is_between (ta_cons (te_p0 tp_k) (ta_cons (te_v (fv (fv f0))) (ta_cons (te_p0 tp_k) ta_nil)))))) (ts_ret (te_as (f := (eO (eT eI))) (m := (fun x => some ((fun x : (Int × Int) => [x.1, x.2]) x))) (te_tup (e := (eP eI eI)) (m := (fun x : Int × Int × Unit => (x.1, x.2.1))) (k := 2) (ta_cons (te_p0 tp_k) (ta_cons (te_v (fv f0)) ta_nil))) (fun _ => rfl)) wt) ts_nil) (wv (wd (wd wn)))) : TS (Rv (eT eI) 0 0 (Rv eI 0 0 (Rv eI 0 0 Rn))) f_folk_fault_l1 (eO (eT eI)) 0 0 Rn (Rv (eT eI) 0 0 (Ra (Ra Rn))) _ (Rv (eT eI) 0 0 (Ra (Ra Rn))))
  exact h
noncomputable def F_folk_fault : (List Int) × Unit → Option (Option (List Int)) := tRun (σ' := Unit) none (tSeq (tIte (tOr (tNot (tOp1 (fun _ : (List Int) => some true) (tV (fun s : (List Int) × Unit => s.1)))) (tNot (tCh (fun a b : Int => some (decide (a ≤ b))) (fun a b : Int => some (decide (a ≤ b))) (tK (σ := (List Int) × Unit) (2 : Int)) (tOp1 (fun a : (List Int) => some (a.length : Int)) (tV (fun s : (List Int) × Unit => s.1))) (tK (σ := (List Int) × Unit) (12 : Int))))) (tRt (tOp1 (fun a => some (some a)) (tOp1 (fun x => some ((fun x : Int × Unit => [x.1]) x)) (tPr (tK (σ := (List Int) × Unit) (0 : Int)) (tK (σ := (List Int) × Unit) ())))) (fun _ : (List Int) × Unit => ())) (tNx (σ := (List Int) × Unit)))
    (tSeq (tForS (fun s => ((tV (fun s : (List Int) × Unit => s.1)) s).map tEnum) (fun s : (List Int) × Unit => s) (fun (x : (Int × Int)) (s : (List Int) × Unit) => ((fun (a : Int) (s : (List Int) × Int × Unit) => (s.1, s.2.1, a, s.2.2)) x.2 ((fun (a : Int) (s : (List Int) × Unit) => (s.1, a, s.2)) x.1 s))) F_folk_fault_l1)
    (tRt (tOp1 (fun a => some ((fun _ => none) a)) (tK (σ := (List Int) × Unit) ())) (fun _ : (List Int) × Unit => ()))))
theorem t_folk_fault : TF D_folk_fault (eCons (eT eI) eNil) (eO (eT eI)) 0 0 F_folk_fault := by
  have h := (tf_run (R' := Rn) (m := 1) (vn := none) (wn := (fun _ h => nomatch h)) (in_c (in_a (in_a in_0))) (ts_seq (ts_if (tt_or (tt_not (tt_val (te_p1 (tp_isi (o := fun _ => true) (tp_v g0) (fun _ => ⟨rfl, by simp [eL, eT, eP, eP3, eP4, isT, isTN, tyN]⟩))))) (tt_not (tt_chn o_le o_le tp_k (tp_c1 o_lenT (tp_v g0)) tp_k)) (wv (wa (wa wn)))) (ts_ret (te_as (f := (eO (eT eI))) (m := some) (te_tup (e := (eT eI)) (m := (fun x : Int × Unit => [x.1])) (k := 1) (ta_cons (te_p0 tp_k) ta_nil)) (fun _ => rfl)) wt) ts_nil)
    (ts_seq (ts_for (R := (Rv (eT eI) 0 0 (Ra (Ra Rn)))) (ti_enT (te_v f0)) (wv (wa (wa wn))) (tg_2 (tg_name (pv p0a)) (tg_name (pv (pv p0a)))) t_folk_fault_l1)
    (ts_ret (te_as (f := (eO (eT eI))) (m := (fun _ => none)) (te_p0 (tp_k (e := eU) (a := ()))) (fun _ => rfl)) wt))) : TF D_folk_fault (eCons (eT eI) eNil) (eO (eT eI)) 0 0 _)
  exact h
/-! is_tuple_of_IPII : I, P(I,I) to B -/
noncomputable def F_is_tuple_of_IPII : Int × (Int × Int) × Unit → Option Bool := tRun (σ' := Unit) none (tRt (tAnd (tOp1 (fun _ : (Int × Int) => some true) (tV (fun s : Int × (Int × Int) × Unit => s.2.1))) (tOp2 tEq (tOp1 (fun _ : (Int × Int) => some ((2 : Nat) : Int)) (tV (fun s : Int × (Int × Int) × Unit => s.2.1))) (tV (fun s : Int × (Int × Int) × Unit => s.1)))) (fun _ : Int × (Int × Int) × Unit => ()))
theorem t_is_tuple_of_IPII : TF D_is_tuple_of (eCons eI (eCons (eP eI eI) eNil)) eB 0 0 F_is_tuple_of_IPII := by
  have h := (tf_run (R' := Rn) (m := 2) (vn := none) (wn := (fun _ h => nomatch h)) (in_c (in_c in_0)) (ts_ret (te_and (te_p1 (tp_isi (o := fun _ => true) (tp_v (gv g0)) (fun _ => ⟨rfl, by simp [eL, eT, eP, eP3, eP4, isT, isTN, tyN]⟩))) (te_p0 (tp_bin (o_eq ok_I) (tp_c1 (o_lenC (k := 2)) (tp_v (gv g0))) (tp_v g0))) (wv (wv wn))) wt) : TF D_is_tuple_of (eCons eI (eCons (eP eI eI) eNil)) eB 0 0 _)
  exact h
/-! is_border : I, P(I,I) to B -/
noncomputable def F_is_border : Int × (Int × Int) × Unit → Option Bool := tRun (σ' := Unit) none (tRt (tAnd (tOp1 F_is_tuple_of_IPII (tPr (tK (σ := Int × (Int × Int) × Unit) (2 : Int)) (tPr (tV (fun s : Int × (Int × Int) × Unit => s.2.1)) (tK (σ := Int × (Int × Int) × Unit) ())))) (tAnd (tOp1 F_is_between (tPr (tK (σ := Int × (Int × Int) × Unit) (0 : Int)) (tPr (tOp1 (fun x => some ((fun x : (Int × Int) => x.1) x)) (tV (fun s : Int × (Int × Int) × Unit => s.2.1))) (tPr (tOp2 (fun a b => some (a - b)) (tV (fun s : Int × (Int × Int) × Unit => s.1)) (tK (σ := Int × (Int × Int) × Unit) (1 : Int))) (tK (σ := Int × (Int × Int) × Unit) ()))))) (tOp1 F_is_between (tPr (tOp2 (fun a b => some (a + b)) (tOp1 (fun x => some ((fun x : (Int × Int) => x.1) x)) (tV (fun s : Int × (Int × Int) × Unit => s.2.1))) (tK (σ := Int × (Int × Int) × Unit) (1 : Int))) (tPr (tOp1 (fun x => some ((fun x : (Int × Int) => x.2) x)) (tV (fun s : Int × (Int × Int) × Unit => s.2.1))) (tPr (tOp2 (fun a b => some (a - b)) (tV (fun s : Int × (Int × Int) × Unit => s.1)) (tK (σ := Int × (Int × Int) × Unit) (1 : Int))) (tK (σ := Int × (Int × Int) × Unit) ()))))))) (fun _ : Int × (Int × Int) × Unit => ()))
theorem t_is_border : TF D_is_border (eCons eI (eCons (eP eI eI) eNil)) eB 0 0 F_is_border := by
  have h := (tf_run (R' := Rn) (m := 2) (vn := none) (wn := (fun _ h => nomatch h)) (in_c (in_c in_0)) (ts_ret (te_and (te_call t_is_tuple_of_IPII (ta_cons (te_p0 tp_k) (ta_cons (te_v (fv f0)) ta_nil))) (te_and (te_call t_is_between (ta_cons (te_p0 tp_k) (ta_cons (te_p0 (tp_ixC (e := eI) (g := (fun x : (Int × Int) => x.1)) (tp_v (gv g0)))) (ta_cons (te_p0 (tp_bin o_sub (tp_v g0) tp_k)) ta_nil)))) (te_call t_is_between (ta_cons (te_p0 (tp_bin o_add (tp_ixC (e := eI) (g := (fun x : (Int × Int) => x.1)) (tp_v (gv g0))) tp_k)) (ta_cons (te_p0 (tp_ixC (e := eI) (g := (fun x : (Int × Int) => x.2)) (tp_v (gv g0)))) (ta_cons (te_p0 (tp_bin o_sub (tp_v g0) tp_k)) ta_nil)))) (wv (wv wn))) (wv (wv wn))) wt) : TF D_is_border (eCons eI (eCons (eP eI eI) eNil)) eB 0 0 _)
  exact h
/-! land_fault : P(T(I),T(P(I,I))) to O(T(I)) -/
noncomputable def F_land_fault_l1 : ((List Int) × (List (Int × Int))) × (Option (List Int)) × (List (Int × Int)) × Int × (Int × Int) × Unit → Option (Fo (Option (List Int)) (Unit) (((List Int) × (List (Int × Int))) × (Option (List Int)) × (List (Int × Int)) × Unit) (((List Int) × (List (Int × Int))) × (Option (List Int)) × (List (Int × Int)) × Unit)) := (tPost (fun s : ((List Int) × (List (Int × Int))) × (Option (List Int)) × (List (Int × Int)) × Int × (Int × Int) × Unit => (s.1, s.2.1, s.2.2.1, s.2.2.2.2.2)) (tIte (tOr (tNot (tOp1 F_is_border (tPr (tOp1 (fun a : (List Int) => some (a.length : Int)) (tOp1 (fun x => some ((fun x : ((List Int) × (List (Int × Int))) => x.1) x)) (tV (fun s : ((List Int) × (List (Int × Int))) × (Option (List Int)) × (List (Int × Int)) × Int × (Int × Int) × Unit => s.1)))) (tPr (tV (fun s : ((List Int) × (List (Int × Int))) × (Option (List Int)) × (List (Int × Int)) × Int × (Int × Int) × Unit => s.2.2.2.2.1)) (tK (σ := ((List Int) × (List (Int × Int))) × (Option (List Int)) × (List (Int × Int)) × Int × (Int × Int) × Unit) ()))))) (tAnd (tBn (fun a b : Int => some (decide (b < a))) (tPr (tV (fun s : ((List Int) × (List (Int × Int))) × (Option (List Int)) × (List (Int × Int)) × Int × (Int × Int) × Unit => s.2.2.2.1)) (tK (σ := ((List Int) × (List (Int × Int))) × (Option (List Int)) × (List (Int × Int)) × Int × (Int × Int) × Unit) (0 : Int)))) (tNot (tBn (fun a b => some (SrtO.lexB a b)) (tPr (tOp2 tIx (tV (fun s : ((List Int) × (List (Int × Int))) × (Option (List Int)) × (List (Int × Int)) × Int × (Int × Int) × Unit => s.2.2.1)) (tOp2 (fun a b => some (a - b)) (tV (fun s : ((List Int) × (List (Int × Int))) × (Option (List Int)) × (List (Int × Int)) × Int × (Int × Int) × Unit => s.2.2.2.1)) (tK (σ := ((List Int) × (List (Int × Int))) × (Option (List Int)) × (List (Int × Int)) × Int × (Int × Int) × Unit) (1 : Int)))) (tV (fun s : ((List Int) × (List (Int × Int))) × (Option (List Int)) × (List (Int × Int)) × Int × (Int × Int) × Unit => s.2.2.2.2.1))))))) (tRt (tOp1 (fun a => some ((fun x => some ((fun x : (Int × Int) => [x.1, x.2]) x)) a)) (tOp1 (fun x => some ((fun x : Int × Int × Unit => (x.1, x.2.1)) x)) (tPr (tK (σ := ((List Int) × (List (Int × Int))) × (Option (List Int)) × (List (Int × Int)) × Int × (Int × Int) × Unit) (1 : Int)) (tPr (tV (fun s : ((List Int) × (List (Int × Int))) × (Option (List Int)) × (List (Int × Int)) × Int × (Int × Int) × Unit => s.2.2.2.1)) (tK (σ := ((List Int) × (List (Int × Int))) × (Option (List Int)) × (List (Int × Int)) × Int × (Int × Int) × Unit) ()))))) (fun _ : ((List Int) × (List (Int × Int))) × (Option (List Int)) × (List (Int × Int)) × Int × (Int × Int) × Unit => ())) (tNx (σ := ((List Int) × (List (Int × Int))) × (Option (List Int)) × (List (Int × Int)) × Int × (Int × Int) × Unit))))
theorem t_land_fault_l1 : TS (Rv (eP (eT eI) (eT (eP eI eI))) 0 0 (Rv (eO (eT eI)) 0 0 (Rv (eT (eP eI eI)) 0 0 (Rv eI 0 0 (Rv (eP eI eI) 0 0 Rn))))) f_land_fault_l1 (eO (eT eI)) 0 0 Rn (Rv (eP (eT eI) (eT (eP eI eI))) 0 0 (Rv (eO (eT eI)) 0 0 (Rv (eT (eP eI eI)) 0 0 (Ra (Ra Rn))))) F_land_fault_l1 (Rv (eP (eT eI) (eT (eP eI eI))) 0 0 (Rv (eO (eT eI)) 0 0 (Rv (eT (eP eI eI)) 0 0 (Ra (Ra Rn))))) := by
  have h := ((ts_post (R2 := (Rv (eP (eT eI) (eT (eP eI eI))) 0 0 (Rv (eO (eT eI)) 0 0 (Rv (eT (eP eI eI)) 0 0 (Ra (Ra Rn)))))) (ts_if (tt_or (tt_not (tt_val (te_call t_is_border (ta_cons (te_p0 (tp_c1 o_lenT (tp_ixC (e := (eT eI)) (g := (fun x : ((List Int) × (List (Int × Int))) => x.1)) (tp_v g0)))) (ta_cons (te_v (fv (fv (fv (fv f0))))) ta_nil))))) (tt_and (tt_cmp (on_2 o_gt) (td_P (tp_v (gv (gv (gv g0)))) tp_k)) (tt_not (tt_cmp (on_2 o_ltP) (td_P (tp_ixT (tp_v (gv (gv g0))) (tp_bin o_sub (tp_v (gv (gv (gv g0)))) tp_k)) (tp_v (gv (gv (gv (gv g0)))))))) (wv (wv (wv (wv (wv wn)))))) (wv (wv (wv (wv (wv wn)))))) (ts_ret (te_as (f := (eO (eT eI))) (m := (fun x => some ((fun x : (Int × Int) => [x.1, x.2]) x))) (te_tup (e := (eP eI eI)) (m := (fun x : Int × Int × Unit => (x.1, x.2.1))) (k := 2) (ta_cons (te_p0 tp_k) (ta_cons (te_v (fv (fv (fv f0)))) ta_nil))) (fun _ => rfl)) wt) ts_nil) (wv (wv (wv (wd (wd wn)))))) : TS (Rv (eP (eT eI) (eT (eP eI eI))) 0 0 (Rv (eO (eT eI)) 0 0 (Rv (eT (eP eI eI)) 0 0 (Rv eI 0 0 (Rv (eP eI eI) 0 0 Rn))))) f_land_fault_l1 (eO (eT eI)) 0 0 Rn (Rv (eP (eT eI) (eT (eP eI eI))) 0 0 (Rv (eO (eT eI)) 0 0 (Rv (eT (eP eI eI)) 0 0 (Ra (Ra Rn))))) _ (Rv (eP (eT eI) (eT (eP eI eI))) 0 0 (Rv (eO (eT eI)) 0 0 (Rv (eT (eP eI eI)) 0 0 (Ra (Ra Rn))))))
  exact h
noncomputable def F_land_fault : ((List Int) × (List (Int × Int))) × Unit → Option (Option (List Int)) := tRun (σ' := Unit) none (tSeq (tIte (tNot (tOp1 F_is_tuple_of (tPr (tK (σ := ((List Int) × (List (Int × Int))) × Unit) (2 : Int)) (tPr (tV (fun s : ((List Int) × (List (Int × Int))) × Unit => s.1)) (tK (σ := ((List Int) × (List (Int × Int))) × Unit) ()))))) (tRt (tOp1 (fun a => some (some a)) (tOp1 (fun x => some ((fun _ : Unit => ([] : (List Int))) x)) (tK (σ := ((List Int) × (List (Int × Int))) × Unit) ()))) (fun _ : ((List Int) × (List (Int × Int))) × Unit => ())) (tNx (σ := ((List Int) × (List (Int × Int))) × Unit)))
    (tSeq (tAsg (tOp1 F_folk_fault (tPr (tOp1 (fun x => some ((fun x : ((List Int) × (List (Int × Int))) => x.1) x)) (tV (fun s : ((List Int) × (List (Int × Int))) × Unit => s.1))) (tK (σ := ((List Int) × (List (Int × Int))) × Unit) ()))) (fun (a : (Option (List Int))) (s : ((List Int) × (List (Int × Int))) × Unit) => (s.1, a, s.2)))
    (tSeq (tIte (tBn (fun (a : (Option (List Int))) (_ : Unit) => some a.isSome) (tPr (tV (fun s : ((List Int) × (List (Int × Int))) × (Option (List Int)) × Unit => s.2.1)) (tK (σ := ((List Int) × (List (Int × Int))) × (Option (List Int)) × Unit) ()))) (tRtX (fun s => some ((fun s : ((List Int) × (List (Int × Int))) × (Option (List Int)) × Unit => s.2.1) s, (fun s : ((List Int) × (List (Int × Int))) × (Option (List Int)) × Unit => (s.1, s.2.2)) s)) (fun _ : ((List Int) × (List (Int × Int))) × Unit => ())) (tNx (σ := ((List Int) × (List (Int × Int))) × (Option (List Int)) × Unit)))
    (tSeq (tAsg (tOp1 (fun x => some ((fun x : ((List Int) × (List (Int × Int))) => x.2) x)) (tV (fun s : ((List Int) × (List (Int × Int))) × (Option (List Int)) × Unit => s.1))) (fun (a : (List (Int × Int))) (s : ((List Int) × (List (Int × Int))) × (Option (List Int)) × Unit) => (s.1, s.2.1, a, s.2.2)))
    (tSeq (tIte (tNot (tOp1 (fun _ : (List (Int × Int)) => some true) (tV (fun s : ((List Int) × (List (Int × Int))) × (Option (List Int)) × (List (Int × Int)) × Unit => s.2.2.1)))) (tRt (tOp1 (fun a => some (some a)) (tOp1 (fun x => some ((fun x : Int × Unit => [x.1]) x)) (tPr (tK (σ := ((List Int) × (List (Int × Int))) × (Option (List Int)) × (List (Int × Int)) × Unit) (1 : Int)) (tK (σ := ((List Int) × (List (Int × Int))) × (Option (List Int)) × (List (Int × Int)) × Unit) ())))) (fun _ : ((List Int) × (List (Int × Int))) × (Option (List Int)) × (List (Int × Int)) × Unit => ())) (tNx (σ := ((List Int) × (List (Int × Int))) × (Option (List Int)) × (List (Int × Int)) × Unit)))
    (tSeq (tForS (fun s => ((tV (fun s : ((List Int) × (List (Int × Int))) × (Option (List Int)) × (List (Int × Int)) × Unit => s.2.2.1)) s).map tEnum) (fun s : ((List Int) × (List (Int × Int))) × (Option (List Int)) × (List (Int × Int)) × Unit => s) (fun (x : (Int × (Int × Int))) (s : ((List Int) × (List (Int × Int))) × (Option (List Int)) × (List (Int × Int)) × Unit) => ((fun (a : (Int × Int)) (s : ((List Int) × (List (Int × Int))) × (Option (List Int)) × (List (Int × Int)) × Int × Unit) => (s.1, s.2.1, s.2.2.1, s.2.2.2.1, a, s.2.2.2.2)) x.2 ((fun (a : Int) (s : ((List Int) × (List (Int × Int))) × (Option (List Int)) × (List (Int × Int)) × Unit) => (s.1, s.2.1, s.2.2.1, a, s.2.2.2)) x.1 s))) F_land_fault_l1)
    (tRt (tOp1 (fun a => some ((fun _ => none) a)) (tK (σ := ((List Int) × (List (Int × Int))) × (Option (List Int)) × (List (Int × Int)) × Unit) ())) (fun _ : ((List Int) × (List (Int × Int))) × (Option (List Int)) × (List (Int × Int)) × Unit => ()))))))))
theorem t_land_fault : TF D_land_fault (eCons (eP (eT eI) (eT (eP eI eI))) eNil) (eO (eT eI)) 0 0 F_land_fault := by
  have h := (tf_run (R' := Rn) (m := 1) (vn := none) (wn := (fun _ h => nomatch h)) (in_c (in_a (in_a (in_a (in_a in_0))))) (ts_seq (ts_if (tt_not (tt_val (te_call t_is_tuple_of (ta_cons (te_p0 tp_k) (ta_cons (te_v f0) ta_nil))))) (ts_ret (te_as (f := (eO (eT eI))) (m := some) (te_tup (e := (eT eI)) (m := (fun _ : Unit => ([] : (List Int)))) (k := 0) ta_nil) (fun _ => rfl)) wt) ts_nil)
    (ts_seq (ts_asg (te_call t_folk_fault (ta_cons (te_p0 (tp_ixC (e := (eT eI)) (g := (fun x : ((List Int) × (List (Int × Int))) => x.1)) (tp_v g0))) ta_nil)) (pv p0a))
    (ts_seq (ts_if (tt_cmp (on_2 (o_isnO nn_T)) (td_P (tp_v (gv g0)) (tp_k (e := eU) (a := ())))) (ts_retX (te_tk (gv g0) (rv r0v)) wt) ts_nil)
    (ts_seq (ts_asg (te_p0 (tp_ixC (e := (eT (eP eI eI))) (g := (fun x : ((List Int) × (List (Int × Int))) => x.2)) (tp_v g0))) (pv (pv p0a)))
    (ts_seq (ts_if (tt_not (tt_val (te_p1 (tp_isi (o := fun _ => true) (tp_v (gv (gv g0))) (fun _ => ⟨rfl, by simp [eL, eT, eP, eP3, eP4, isT, isTN, tyN]⟩))))) (ts_ret (te_as (f := (eO (eT eI))) (m := some) (te_tup (e := (eT eI)) (m := (fun x : Int × Unit => [x.1])) (k := 1) (ta_cons (te_p0 tp_k) ta_nil)) (fun _ => rfl)) wt) ts_nil)
    (ts_seq (ts_for (R := (Rv (eP (eT eI) (eT (eP eI eI))) 0 0 (Rv (eO (eT eI)) 0 0 (Rv (eT (eP eI eI)) 0 0 (Ra (Ra Rn)))))) (ti_enT (te_v (fv (fv f0)))) (wv (wv (wv (wa (wa wn))))) (tg_2 (tg_name (pv (pv (pv p0a)))) (tg_name (pv (pv (pv (pv p0a)))))) t_land_fault_l1)
    (ts_ret (te_as (f := (eO (eT eI))) (m := (fun _ => none)) (te_p0 (tp_k (e := eU) (a := ()))) (fun _ => rfl)) wt))))))) : TF D_land_fault (eCons (eP (eT eI) (eT (eP eI eI))) eNil) (eO (eT eI)) 0 0 _)
  exact h
/-! check_land : P(T(I),T(P(I,I))) to U -/
noncomputable def F_check_land : ((List Int) × (List (Int × Int))) × Unit → Option Unit := tRun (σ' := ((List Int) × (List (Int × Int))) × (Option (List Int)) × Unit) (some ()) (tSeq (tAsg (tOp1 F_land_fault (tPr (tV (fun s : ((List Int) × (List (Int × Int))) × Unit => s.1)) (tK (σ := ((List Int) × (List (Int × Int))) × Unit) ()))) (fun (a : (Option (List Int))) (s : ((List Int) × (List (Int × Int))) × Unit) => (s.1, a, s.2)))
    (tIte (tBn (fun (a : (Option (List Int))) (_ : Unit) => some a.isSome) (tPr (tV (fun s : ((List Int) × (List (Int × Int))) × (Option (List Int)) × Unit => s.2.1)) (tK (σ := ((List Int) × (List (Int × Int))) × (Option (List Int)) × Unit) ()))) (fun _ : ((List Int) × (List (Int × Int))) × (Option (List Int)) × Unit => none) (tNx (σ := ((List Int) × (List (Int × Int))) × (Option (List Int)) × Unit))))
theorem t_check_land : TF D_check_land (eCons (eP (eT eI) (eT (eP eI eI))) eNil) eU 0 0 F_check_land := by
  have h := (tf_run (R' := (Rv (eP (eT eI) (eT (eP eI eI))) 0 0 (Rv (eO (eT eI)) 0 0 Rn))) (m := 1) (vn := (some ())) (wn := (fun _ h => by cases h; exact ⟨rfl, rfl⟩)) (in_c (in_a in_0)) (ts_seq (ts_asg (te_call t_land_fault (ta_cons (te_v f0) ta_nil)) (pv p0a))
    (ts_if (tt_cmp (on_2 (o_isnO nn_T)) (td_P (tp_v (gv g0)) (tp_k (e := eU) (a := ())))) ts_nev ts_nil)) : TF D_check_land (eCons (eP (eT eI) (eT (eP eI eI))) eNil) eU 0 0 _)
  exact h
/-! size_of : P(T(I),T(P(I,I))) to I -/
noncomputable def F_size_of : ((List Int) × (List (Int × Int))) × Unit → Option Int := tRun (σ' := Unit) none (tRt (tOp1 (fun a : (List Int) => some (a.length : Int)) (tOp1 (fun x => some ((fun x : ((List Int) × (List (Int × Int))) => x.1) x)) (tV (fun s : ((List Int) × (List (Int × Int))) × Unit => s.1)))) (fun _ : ((List Int) × (List (Int × Int))) × Unit => ()))
theorem t_size_of : TF D_size_of (eCons (eP (eT eI) (eT (eP eI eI))) eNil) eI 0 0 F_size_of := by
  have h := (tf_run (R' := Rn) (m := 1) (vn := none) (wn := (fun _ h => nomatch h)) (in_c in_0) (ts_ret (te_p0 (tp_c1 o_lenT (tp_ixC (e := (eT eI)) (g := (fun x : ((List Int) × (List (Int × Int))) => x.1)) (tp_v g0)))) wt) : TF D_size_of (eCons (eP (eT eI) (eT (eP eI eI))) eNil) eI 0 0 _)
  exact h
/-! is_tuple_of_ITI : I, T(I) to B -/
noncomputable def F_is_tuple_of_ITI : Int × (List Int) × Unit → Option Bool := tRun (σ' := Unit) none (tRt (tAnd (tOp1 (fun _ : (List Int) => some true) (tV (fun s : Int × (List Int) × Unit => s.2.1))) (tOp2 tEq (tOp1 (fun a : (List Int) => some (a.length : Int)) (tV (fun s : Int × (List Int) × Unit => s.2.1))) (tV (fun s : Int × (List Int) × Unit => s.1)))) (fun _ : Int × (List Int) × Unit => ()))
theorem t_is_tuple_of_ITI : TF D_is_tuple_of (eCons eI (eCons (eT eI) eNil)) eB 0 0 F_is_tuple_of_ITI := by
  have h := (tf_run (R' := Rn) (m := 2) (vn := none) (wn := (fun _ h => nomatch h)) (in_c (in_c in_0)) (ts_ret (te_and (te_p1 (tp_isi (o := fun _ => true) (tp_v (gv g0)) (fun _ => ⟨rfl, by simp [eL, eT, eP, eP3, eP4, isT, isTN, tyN]⟩))) (te_p0 (tp_bin (o_eq ok_I) (tp_c1 o_lenT (tp_v (gv g0))) (tp_v g0))) (wv (wv wn))) wt) : TF D_is_tuple_of (eCons eI (eCons (eT eI) eNil)) eB 0 0 _)
  exact h
/-! rows_of : P(T(I),T(P(I,I))) to L(L(I)) -/
noncomputable def F_rows_of_l1 : ((List Int) × (List (Int × Int))) × (List (List Int)) × Int × Int × Unit → Option (Fo (List (List Int)) (Unit) (((List Int) × (List (Int × Int))) × (List (List Int)) × Unit) (((List Int) × (List (Int × Int))) × (List (List Int)) × Unit)) := (tPost (fun s : ((List Int) × (List (Int × Int))) × (List (List Int)) × Int × Int × Unit => (s.1, s.2.1, s.2.2.2.2)) (tSeq (fun s => ((tV (fun s : ((List Int) × (List (Int × Int))) × (List (List Int)) × Int × Int × Unit => s.2.2.1)) s).bind fun k => ((tV (fun s : ((List Int) × (List (Int × Int))) × (List (List Int)) × Int × Int × Unit => s.2.2.2.1)) s).bind fun x => (tApp2 ((fun s : ((List Int) × (List (Int × Int))) × (List (List Int)) × Int × Int × Unit => s.2.1) s) k x).map fun xs => .nx ((fun (a : (List (List Int))) (s : ((List Int) × (List (Int × Int))) × (List (List Int)) × Int × Int × Unit) => (s.1, a, s.2.2)) xs s))
    (fun s => ((tV (fun s : ((List Int) × (List (Int × Int))) × (List (List Int)) × Int × Int × Unit => s.2.2.2.1)) s).bind fun k => ((tV (fun s : ((List Int) × (List (Int × Int))) × (List (List Int)) × Int × Int × Unit => s.2.2.1)) s).bind fun x => (tApp2 ((fun s : ((List Int) × (List (Int × Int))) × (List (List Int)) × Int × Int × Unit => s.2.1) s) k x).map fun xs => .nx ((fun (a : (List (List Int))) (s : ((List Int) × (List (Int × Int))) × (List (List Int)) × Int × Int × Unit) => (s.1, a, s.2.2)) xs s))))
theorem t_rows_of_l1 : TS (Rv (eP (eT eI) (eT (eP eI eI))) 0 0 (Rv (eL (eL eI)) 2 2 (Ra (Rv eI 0 0 (Rv eI 0 0 (Ra Rn)))))) f_rows_of_l1 (eL (eL eI)) 1 1 Rn (Rv (eP (eT eI) (eT (eP eI eI))) 0 0 (Rv (eL (eL eI)) 2 2 (Ra (Ra (Ra (Ra Rn)))))) F_rows_of_l1 (Rv (eP (eT eI) (eT (eP eI eI))) 0 0 (Rv (eL (eL eI)) 2 2 (Ra (Ra (Ra (Ra Rn)))))) := by
  have h := ((ts_post (R2 := (Rv (eP (eT eI) (eT (eP eI eI))) 0 0 (Rv (eL (eL eI)) 2 2 (Ra (Ra (Ra (Ra Rn))))))) (ts_seq (ts_app2 (gv g0) (tp_v (gv (gv (ga g0)))) (tp_v (gv (gv (ga (gv g0))))) (pv p0v))
    (ts_app2 (gv g0) (tp_v (gv (gv (ga (gv g0))))) (tp_v (gv (gv (ga g0)))) (pv p0v))) (wv (wv (wa (wd (wd (wa wn))))))) : TS (Rv (eP (eT eI) (eT (eP eI eI))) 0 0 (Rv (eL (eL eI)) 2 2 (Ra (Rv eI 0 0 (Rv eI 0 0 (Ra Rn)))))) f_rows_of_l1 (eL (eL eI)) 1 1 Rn (Rv (eP (eT eI) (eT (eP eI eI))) 0 0 (Rv (eL (eL eI)) 2 2 (Ra (Ra (Ra (Ra Rn)))))) _ (Rv (eP (eT eI) (eT (eP eI eI))) 0 0 (Rv (eL (eL eI)) 2 2 (Ra (Ra (Ra (Ra Rn)))))))
  exact h
noncomputable def F_rows_of : ((List Int) × (List (Int × Int))) × Unit → Option (List (List Int)) := tRun (σ' := Unit) none (tSeq (tAsg (tLm (tOp1 (fun x => some ((fun x : ((List Int) × (List (Int × Int))) => x.1) x)) (tV (fun s : ((List Int) × (List (Int × Int))) × Unit => s.1))) (fun (a : Int) (s : ((List Int) × (List (Int × Int))) × Unit) => (s.1, a, s.2)) (tOp1 (fun x => some ((fun _ : Unit => ([] : (List Int))) x)) (tK (σ := ((List Int) × (List (Int × Int))) × Int × Unit) ()))) (fun (a : (List (List Int))) (s : ((List Int) × (List (Int × Int))) × Unit) => (s.1, a, s.2)))
    (tSeq (tForS (tOp1 (fun x => some ((fun x : ((List Int) × (List (Int × Int))) => x.2) x)) (tV (fun s : ((List Int) × (List (Int × Int))) × (List (List Int)) × Unit => s.1))) (fun s : ((List Int) × (List (Int × Int))) × (List (List Int)) × Unit => s) (fun (x : (Int × Int)) (s : ((List Int) × (List (Int × Int))) × (List (List Int)) × Unit) => ((fun (a : Int) (s : ((List Int) × (List (Int × Int))) × (List (List Int)) × Int × Unit) => (s.1, s.2.1, s.2.2.1, a, s.2.2.2)) x.2 ((fun (a : Int) (s : ((List Int) × (List (Int × Int))) × (List (List Int)) × Unit) => (s.1, s.2.1, a, s.2.2)) x.1 s))) F_rows_of_l1)
    (tRt (tLm (tV (fun s : ((List Int) × (List (Int × Int))) × (List (List Int)) × Unit => s.2.1)) (fun (a : (List Int)) (s : ((List Int) × (List (Int × Int))) × (List (List Int)) × Unit) => (s.1, s.2.1, a, s.2.2)) (tOp1 (fun a => some (sortI a)) (tV (fun s : ((List Int) × (List (Int × Int))) × (List (List Int)) × (List Int) × Unit => s.2.2.1)))) (fun _ : ((List Int) × (List (Int × Int))) × (List (List Int)) × Unit => ()))))
theorem t_rows_of : TF D_rows_of (eCons (eP (eT eI) (eT (eP eI eI))) eNil) (eL (eL eI)) 1 1 F_rows_of := by
  have h := (tf_run (R' := Rn) (m := 1) (vn := none) (wn := (fun _ h => nomatch h)) (in_c (in_a (in_a (in_a (in_a (in_a in_0)))))) (ts_seq (ts_asg (te_lo (Rw := (Rv (eP (eT eI) (eT (eP eI eI))) 0 0 (Ra (Ra (Ra (Ra (Ra Rn))))))) (ti_T (te_p0 (tp_ixC (e := (eT eI)) (g := (fun x : ((List Int) × (List (Int × Int))) => x.1)) (tp_v g0)))) (wp_c wp_n (rv (ra r0a))) (tg_name (pv (pa p0a))) (te_lst (e := (eL eI)) (m := (fun _ : Unit => ([] : (List Int)))) (k := 0) ta_nil) (wp_c wp_n (rv (ra r0v))) (rs_c rs_n (rv (ra r0a)))) (pv p0a))
    (ts_seq (ts_for (R := (Rv (eP (eT eI) (eT (eP eI eI))) 0 0 (Rv (eL (eL eI)) 2 2 (Ra (Ra (Ra (Ra Rn))))))) (ti_T (te_p0 (tp_ixC (e := (eT (eP eI eI))) (g := (fun x : ((List Int) × (List (Int × Int))) => x.2)) (tp_v g0)))) (wv (wv (wa (wa (wa (wa wn)))))) (tg_2 (tg_name (pv (pv (pa p0a)))) (tg_name (pv (pv (pa (pv p0a)))))) t_rows_of_l1)
    (ts_ret (te_lm (Rw := (Rv (eP (eT eI) (eT (eP eI eI))) 0 0 (Rv (eL (eL eI)) 0 0 (Ra (Ra (Ra (Ra Rn))))))) (ti_L (te_v (fv f0))) (wp_c wp_n (rv (rv (ra (ra (ra r0a)))))) (tg_name (pv (pv (pa (pa (pa p0a)))))) (te_c1p oc_sortI (tp_v (gv (gv (ga (ga (ga g0))))))) (wp_c wp_n (rv (rv (ra (ra (ra r0v)))))) (rs_c rs_n (rv (rv (ra (ra (ra r0a))))))) wt))) : TF D_rows_of (eCons (eP (eT eI) (eT (eP eI eI))) eNil) (eL (eL eI)) 1 1 _)
  exact h
/-! reached : L(L(I)), I, L(I) to L(I) -/
noncomputable def F_reached_l2 : (List (List Int)) × Int × (List Int) × (List Int) × Int × Int × Unit → Option (Fo (List Int) (Unit) ((List (List Int)) × Int × (List Int) × (List Int) × Int × Unit) ((List (List Int)) × Int × (List Int) × (List Int) × Int × Unit)) := (tPost (fun s : (List (List Int)) × Int × (List Int) × (List Int) × Int × Int × Unit => (s.1, s.2.1, s.2.2.1, s.2.2.2.1, s.2.2.2.2.1, s.2.2.2.2.2.2)) (tIte (tAnd (tBn tIn (tPr (tV (fun s : (List (List Int)) × Int × (List Int) × (List Int) × Int × Int × Unit => s.2.2.2.2.2.1)) (tV (fun s : (List (List Int)) × Int × (List Int) × (List Int) × Int × Int × Unit => s.2.2.1)))) (tBn tNi (tPr (tV (fun s : (List (List Int)) × Int × (List Int) × (List Int) × Int × Int × Unit => s.2.2.2.2.2.1)) (tV (fun s : (List (List Int)) × Int × (List Int) × (List Int) × Int × Int × Unit => s.2.2.2.1))))) (tAppS (tX (tV (fun s : (List (List Int)) × Int × (List Int) × (List Int) × Int × Int × Unit => s.2.2.2.2.2.1))) (fun s : (List (List Int)) × Int × (List Int) × (List Int) × Int × Int × Unit => s.2.2.2.1) (fun (a : (List Int)) (s : (List (List Int)) × Int × (List Int) × (List Int) × Int × Int × Unit) => (s.1, s.2.1, s.2.2.1, a, s.2.2.2.2))) (tNx (σ := (List (List Int)) × Int × (List Int) × (List Int) × Int × Int × Unit))))
theorem t_reached_l2 : TS (Rv (eL (eL eI)) 0 0 (Rv eI 0 0 (Rv (eL eI) 0 0 (Rv (eL eI) 1 1 (Rv eI 0 0 (Rv eI 0 0 Rn)))))) f_reached_l1 (eL eI) 1 1 Rn (Rv (eL (eL eI)) 0 0 (Rv eI 0 0 (Rv (eL eI) 0 0 (Rv (eL eI) 1 1 (Rv eI 0 0 (Ra Rn)))))) F_reached_l2 (Rv (eL (eL eI)) 0 0 (Rv eI 0 0 (Rv (eL eI) 0 0 (Rv (eL eI) 1 1 (Rv eI 0 0 (Ra Rn)))))) := by
  have h := ((ts_post (R2 := (Rv (eL (eL eI)) 0 0 (Rv eI 0 0 (Rv (eL eI) 0 0 (Rv (eL eI) 1 1 (Rv eI 0 0 (Ra Rn))))))) (ts_if (tt_and (tt_cmp (on_2 (o_inL ok_I)) (td_P (tp_v (gv (gv (gv (gv (gv g0)))))) (tp_v (gv (gv g0))))) (tt_cmp (on_2 (o_niL ok_I)) (td_P (tp_v (gv (gv (gv (gv (gv g0)))))) (tp_v (gv (gv (gv g0)))))) (wv (wv (wv (wv (wv (wv wn))))))) (ts_app (gv (gv (gv g0))) ((te_v (fv (fv (fv (fv (fv f0))))))).x (gv (gv (gv g0))) (pv (pv (pv p0v)))) ts_nil) (wv (wv (wv (wv (wv (wd wn))))))) : TS (Rv (eL (eL eI)) 0 0 (Rv eI 0 0 (Rv (eL eI) 0 0 (Rv (eL eI) 1 1 (Rv eI 0 0 (Rv eI 0 0 Rn)))))) f_reached_l1 (eL eI) 1 1 Rn (Rv (eL (eL eI)) 0 0 (Rv eI 0 0 (Rv (eL eI) 0 0 (Rv (eL eI) 1 1 (Rv eI 0 0 (Ra Rn)))))) _ (Rv (eL (eL eI)) 0 0 (Rv eI 0 0 (Rv (eL eI) 0 0 (Rv (eL eI) 1 1 (Rv eI 0 0 (Ra Rn)))))))
  exact h
noncomputable def F_reached_l1 : (List (List Int)) × Int × (List Int) × (List Int) × Int × Unit → Option (Fo (List Int) (Unit) ((List (List Int)) × Int × (List Int) × (List Int) × Int × Unit) ((List (List Int)) × Int × (List Int) × (List Int) × Int × Unit)) := (tSeq (tForS (tOp2 tIx (tV (fun s : (List (List Int)) × Int × (List Int) × (List Int) × Int × Unit => s.1)) (tOp2 tIx (tV (fun s : (List (List Int)) × Int × (List Int) × (List Int) × Int × Unit => s.2.2.2.1)) (tV (fun s : (List (List Int)) × Int × (List Int) × (List Int) × Int × Unit => s.2.2.2.2.1)))) (fun s : (List (List Int)) × Int × (List Int) × (List Int) × Int × Unit => s) (fun (a : Int) (s : (List (List Int)) × Int × (List Int) × (List Int) × Int × Unit) => (s.1, s.2.1, s.2.2.1, s.2.2.2.1, s.2.2.2.2.1, a, s.2.2.2.2.2)) F_reached_l2)
    (tAsg (fun s => ((tK (σ := (List (List Int)) × Int × (List Int) × (List Int) × Int × Unit) (1 : Int)) s).map fun v => (fun i j => i + j) ((fun s : (List (List Int)) × Int × (List Int) × (List Int) × Int × Unit => s.2.2.2.2.1) s) v) (fun (a : Int) (s : (List (List Int)) × Int × (List Int) × (List Int) × Int × Unit) => (s.1, s.2.1, s.2.2.1, s.2.2.2.1, a, s.2.2.2.2.2))))
theorem t_reached_l1 : TS (Rv (eL (eL eI)) 0 0 (Rv eI 0 0 (Rv (eL eI) 0 0 (Rv (eL eI) 1 1 (Rv eI 0 0 (Ra Rn)))))) f_reached_w1 (eL eI) 1 1 Rn (Rv (eL (eL eI)) 0 0 (Rv eI 0 0 (Rv (eL eI) 0 0 (Rv (eL eI) 1 1 (Rv eI 0 0 (Ra Rn)))))) F_reached_l1 (Rv (eL (eL eI)) 0 0 (Rv eI 0 0 (Rv (eL eI) 0 0 (Rv (eL eI) 1 1 (Rv eI 0 0 (Ra Rn)))))) := by
  have h := ((ts_seq (ts_for (R := (Rv (eL (eL eI)) 0 0 (Rv eI 0 0 (Rv (eL eI) 0 0 (Rv (eL eI) 1 1 (Rv eI 0 0 (Ra Rn))))))) (ti_L (te_p0 (tp_ixL (tp_v g0) (tp_ixL (tp_v (gv (gv (gv g0)))) (tp_v (gv (gv (gv (gv g0))))))))) (wv (wv (wv (wv (wv (wa wn)))))) (tg_name (pv (pv (pv (pv (pv p0a)))))) t_reached_l2)
    (ts_aug (k := (fun i j => i + j)) (gv (gv (gv (gv g0)))) (te_p0 tp_k) (pv (pv (pv (pv p0v)))))) : TS (Rv (eL (eL eI)) 0 0 (Rv eI 0 0 (Rv (eL eI) 0 0 (Rv (eL eI) 1 1 (Rv eI 0 0 (Ra Rn)))))) f_reached_w1 (eL eI) 1 1 Rn (Rv (eL (eL eI)) 0 0 (Rv eI 0 0 (Rv (eL eI) 0 0 (Rv (eL eI) 1 1 (Rv eI 0 0 (Ra Rn)))))) _ (Rv (eL (eL eI)) 0 0 (Rv eI 0 0 (Rv (eL eI) 0 0 (Rv (eL eI) 1 1 (Rv eI 0 0 (Ra Rn)))))))
  exact h
noncomputable def F_reached_l1_t : (List (List Int)) × Int × (List Int) × (List Int) × Int × Unit → Option Bool := (tBn (fun a b : Int => some (decide (a < b))) (tPr (tV (fun s : (List (List Int)) × Int × (List Int) × (List Int) × Int × Unit => s.2.2.2.2.1)) (tOp1 (fun a : (List Int) => some (a.length : Int)) (tV (fun s : (List (List Int)) × Int × (List Int) × (List Int) × Int × Unit => s.2.2.2.1)))))
noncomputable def F_reached : (List (List Int)) × Int × (List Int) × Unit → Option (List Int) := tRun (σ' := Unit) none (tSeq (tPar (tX (tOp1 (fun x => some ((fun x : Int × Unit => [x.1]) x)) (tPr (tV (fun s : (List (List Int)) × Int × (List Int) × Unit => s.2.1)) (tK (σ := (List (List Int)) × Int × (List Int) × Unit) ())))) (tX (tK (σ := (List (List Int)) × Int × (List Int) × Unit) (0 : Int))) (fun (a : (List Int)) (s : (List (List Int)) × Int × (List Int) × Unit) => (s.1, s.2.1, s.2.2.1, a, s.2.2.2)) (fun (a : Int) (s : (List (List Int)) × Int × (List Int) × (List Int) × Unit) => (s.1, s.2.1, s.2.2.1, s.2.2.2.1, a, s.2.2.2.2)))
    (tSeq (fun s => tWhile F_reached_l1_t F_reached_l1 fuel ((fun s : (List (List Int)) × Int × (List Int) × (List Int) × Int × Unit => s) s))
    (tRt (tOp1 (fun a => some (sortI a)) (tV (fun s : (List (List Int)) × Int × (List Int) × (List Int) × Int × Unit => s.2.2.2.1))) (fun _ : (List (List Int)) × Int × (List Int) × (List Int) × Int × Unit => ()))))
theorem t_reached : TF D_reached (eCons (eL (eL eI)) (eCons eI (eCons (eL eI) eNil))) (eL eI) 1 1 F_reached := by
  have h := (tf_run (R' := Rn) (m := 3) (vn := none) (wn := (fun _ h => nomatch h)) (in_c (in_c (in_c (in_a (in_a (in_a in_0)))))) (ts_seq (ts_par ((te_lst (e := (eL eI)) (m := (fun x : Int × Unit => [x.1])) (k := 1) (ta_cons (te_v (fv f0)) ta_nil))).x ((te_p0 tp_k)).x (pv (pv (pv p0a))) (pv (pv (pv (pv p0a)))))
    (ts_seq (ts_while (R := (Rv (eL (eL eI)) 0 0 (Rv eI 0 0 (Rv (eL eI) 0 0 (Rv (eL eI) 1 1 (Rv eI 0 0 (Ra Rn))))))) (C := F_reached_l1_t) (wv (wv (wv (wv (wv (wa wn)))))) (tt_cmp (on_2 o_lt) (td_P (tp_v (gv (gv (gv (gv g0))))) (tp_c1 o_lenL (tp_v (gv (gv (gv g0))))))) t_reached_l1 (wv (wv (wv (wv (wv (wa wn)))))))
    (ts_ret (te_c1p oc_sortI (tp_v (gv (gv (gv g0))))) wt))) : TF D_reached (eCons (eL (eL eI)) (eCons eI (eCons (eL eI) eNil))) (eL eI) 1 1 _)
  exact h
/-! hangs_of_LLILI : L(L(I)), L(I) to B -/
noncomputable def F_hangs_of_LLILI : (List (List Int)) × (List Int) × Unit → Option Bool := tRun (σ' := Unit) none (tRt (tBn tEq (tPr (tOp1 (fun a : (List Int) => some (a.length : Int)) (tOp1 F_reached (tPr (tV (fun s : (List (List Int)) × (List Int) × Unit => s.1)) (tPr (tOp2 tIx (tV (fun s : (List (List Int)) × (List Int) × Unit => s.2.1)) (tK (σ := (List (List Int)) × (List Int) × Unit) (0 : Int))) (tPr (tV (fun s : (List (List Int)) × (List Int) × Unit => s.2.1)) (tK (σ := (List (List Int)) × (List Int) × Unit) ())))))) (tOp1 (fun a : (List Int) => some (a.length : Int)) (tV (fun s : (List (List Int)) × (List Int) × Unit => s.2.1))))) (fun _ : (List (List Int)) × (List Int) × Unit => ()))
theorem t_hangs_of_LLILI : TF D_hangs_of (eCons (eL (eL eI)) (eCons (eL eI) eNil)) eB 0 0 F_hangs_of_LLILI := by
  have h := (tf_run (R' := Rn) (m := 2) (vn := none) (wn := (fun _ h => nomatch h)) (in_c (in_c in_0)) (ts_ret (te_bin (on_2 (o_eq ok_I)) (td_Ep (te_c1 (oc_1 o_lenL) (te_call t_reached (ta_cons (te_v f0) (ta_cons (te_p0 (tp_ixL (tp_v (gv g0)) tp_k)) (ta_cons (te_v (fv f0)) ta_nil))))) (te_p1 (tp_c1 o_lenL (tp_v (gv g0)))))) wt) : TF D_hangs_of (eCons (eL (eL eI)) (eCons (eL eI) eNil)) eB 0 0 _)
  exact h
/-! as_plan : L(L(I)) to T(T(I)) -/
noncomputable def F_as_plan : (List (List Int)) × Unit → Option (List (List Int)) := tRun (σ' := Unit) none (tRt (tOp1 (fun a : (List (List Int)) => some a) (tOp1 tSortL (tLm (tV (fun s : (List (List Int)) × Unit => s.1)) (fun (a : (List Int)) (s : (List (List Int)) × Unit) => (s.1, a, s.2)) (tOp1 (fun a : (List Int) => some a) (tOp1 (fun a => some (sortI a)) (tV (fun s : (List (List Int)) × (List Int) × Unit => s.2.1))))))) (fun _ : (List (List Int)) × Unit => ()))
theorem t_as_plan : TF D_as_plan (eCons (eL (eL eI)) eNil) (eT (eT eI)) 0 0 F_as_plan := by
  have h := (tf_run (R' := Rn) (m := 1) (vn := none) (wn := (fun _ h => nomatch h)) (in_c (in_a in_0)) (ts_ret (te_c1 (oc_tupleL (h1 := 1)) (te_c1 oc_sortL (te_lm (Rw := (Rv (eL (eL eI)) 0 0 (Ra Rn))) (ti_L (te_v f0)) (wp_c wp_n (rv r0a)) (tg_name (pv p0a)) (te_c1 (oc_tupleL (h1 := 1)) (te_c1p oc_sortI (tp_v (gv g0)))) (wp_c wp_n (rv r0v)) (rs_c rs_n (rv r0a))))) wt) : TF D_as_plan (eCons (eL (eL eI)) eNil) (eT (eT eI)) 0 0 _)
  exact h
/-! plan_of : P(T(I),T(P(I,I))), T(I) to T(T(I)) -/
noncomputable def F_plan_of : ((List Int) × (List (Int × Int))) × (List Int) × Unit → Option (Option (List (List Int))) := tRunX (σ' := Unit) (tSeqX (fun s => ((fun s => ((tX (tOp1 F_check_land (tPr (tV (fun s : ((List Int) × (List (Int × Int))) × (List Int) × Unit => s.1)) (tK (σ := ((List Int) × (List (Int × Int))) × (List Int) × Unit) ())))) s).map fun v => .nx v.2) s).map upFo)
    (tSeqX (fun s => ((tIte (tOr (tNot (tOp1 F_is_tuple_of_ITI (tPr (tOp1 F_size_of (tPr (tV (fun s : ((List Int) × (List (Int × Int))) × (List Int) × Unit => s.1)) (tK (σ := ((List Int) × (List (Int × Int))) × (List Int) × Unit) ()))) (tPr (tV (fun s : ((List Int) × (List (Int × Int))) × (List Int) × Unit => s.2.1)) (tK (σ := ((List Int) × (List (Int × Int))) × (List Int) × Unit) ()))))) (tNot (tOp1 (fun a : List Bool => some (a.all id)) (tLm (tV (fun s : ((List Int) × (List (Int × Int))) × (List Int) × Unit => s.2.1)) (fun (a : Int) (s : ((List Int) × (List (Int × Int))) × (List Int) × Unit) => (s.1, s.2.1, a, s.2.2)) (tOp1 F_is_integer (tPr (tV (fun s : ((List Int) × (List (Int × Int))) × (List Int) × Int × Unit => s.2.2.1)) (tK (σ := ((List Int) × (List (Int × Int))) × (List Int) × Int × Unit) ()))))))) (fun _ : ((List Int) × (List (Int × Int))) × (List Int) × Unit => none) (tNx (σ := ((List Int) × (List (Int × Int))) × (List Int) × Unit))) s).map upFo)
    (tSeqX (fun s => ((tAsg (tLm (tOp1 tSetI (tV (fun s : ((List Int) × (List (Int × Int))) × (List Int) × Unit => s.2.1))) (fun (a : Int) (s : ((List Int) × (List (Int × Int))) × (List Int) × Unit) => (s.1, s.2.1, a, s.2.2)) (tLc (fun s => ((tV (fun s : ((List Int) × (List (Int × Int))) × (List Int) × Int × Unit => s.2.1)) s).map tEnum) (fun (x : (Int × Int)) (s : ((List Int) × (List (Int × Int))) × (List Int) × Int × Unit) => ((fun (a : Int) (s : ((List Int) × (List (Int × Int))) × (List Int) × Int × Int × Unit) => (s.1, s.2.1, a, s.2.2)) x.2 ((fun (a : Int) (s : ((List Int) × (List (Int × Int))) × (List Int) × Int × Unit) => (s.1, s.2.1, s.2.2.1, a, s.2.2.2)) x.1 s))) (tBn tEq (tPr (tV (fun s : ((List Int) × (List (Int × Int))) × (List Int) × Int × Int × Int × Unit => s.2.2.1)) (tV (fun s : ((List Int) × (List (Int × Int))) × (List Int) × Int × Int × Int × Unit => s.2.2.2.1)))) (tV (fun s : ((List Int) × (List (Int × Int))) × (List Int) × Int × Int × Int × Unit => s.2.2.2.2.1)))) (fun (a : (List (List Int))) (s : ((List Int) × (List (Int × Int))) × (List Int) × Unit) => (s.1, s.2.1, a, s.2.2))) s).map upFo)
    (tSeqX (tIte (tNot (tOp1 (fun a : List Bool => some (a.all id)) (tLm (tV (fun s : ((List Int) × (List (Int × Int))) × (List Int) × (List (List Int)) × Unit => s.2.2.1)) (fun (a : (List Int)) (s : ((List Int) × (List (Int × Int))) × (List Int) × (List (List Int)) × Unit) => (s.1, s.2.1, s.2.2.1, a, s.2.2.2)) (tOp1 F_hangs_of_LLILI (tPr (tOp1 F_rows_of (tPr (tV (fun s : ((List Int) × (List (Int × Int))) × (List Int) × (List (List Int)) × (List Int) × Unit => s.1)) (tK (σ := ((List Int) × (List (Int × Int))) × (List Int) × (List (List Int)) × (List Int) × Unit) ()))) (tPr (tV (fun s : ((List Int) × (List (Int × Int))) × (List Int) × (List (List Int)) × (List Int) × Unit => s.2.2.2.1)) (tK (σ := ((List Int) × (List (Int × Int))) × (List Int) × (List (List Int)) × (List Int) × Unit) ()))))))) (fun _ : ((List Int) × (List (Int × Int))) × (List Int) × (List (List Int)) × Unit => some (.rt none ())) (fun s : ((List Int) × (List (Int × Int))) × (List Int) × (List (List Int)) × Unit => some (.nx s)))
    (fun s => ((tRt (tOp1 F_as_plan (tPr (tV (fun s : ((List Int) × (List (Int × Int))) × (List Int) × (List (List Int)) × Unit => s.2.2.1)) (tK (σ := ((List Int) × (List (Int × Int))) × (List Int) × (List (List Int)) × Unit) ()))) (fun _ : ((List Int) × (List (Int × Int))) × (List Int) × (List (List Int)) × Unit => ())) s).map upFo)))))
theorem t_plan_of : TFE D_plan_of (eCons (eP (eT eI) (eT (eP eI eI))) (eCons (eT eI) eNil)) (eT (eT eI)) 0 0 "Refused" F_plan_of := by
  have h := (tfe_run (R' := Rn) (m := 2) (in_c (in_c (in_a (in_a (in_a (in_a (in_a in_0))))))) (tsx_seq (tsx_up (ts_exp ((te_call t_check_land (ta_cons (te_v f0) ta_nil))).x))
    (tsx_seq (tsx_up (ts_if (tt_or (tt_not (tt_val (te_call t_is_tuple_of_ITI (ta_cons (te_call t_size_of (ta_cons (te_v f0) ta_nil)) (ta_cons (te_v (fv f0)) ta_nil))))) (tt_not (tt_val (te_c1 (oc_1 o_all) (te_lm (Rw := (Rv (eP (eT eI) (eT (eP eI eI))) 0 0 (Rv (eT eI) 0 0 (Ra (Ra (Ra (Ra (Ra Rn)))))))) (ti_T (te_v (fv f0))) (wp_c wp_n (rv (rv r0a))) (tg_name (pv (pv p0a))) (te_call t_is_integer (ta_cons (te_v (fv (fv f0))) ta_nil)) (wp_c wp_n (rv (rv r0v))) (rs_c rs_n (rv (rv r0a))))))) (wv (wv (wa (wa (wa (wa (wa wn)))))))) ts_nev ts_nil))
    (tsx_seq (tsx_up (ts_asg (te_lm (Rw := (Rv (eP (eT eI) (eT (eP eI eI))) 0 0 (Rv (eT eI) 0 0 (Ra (Ra (Ra (Ra (Ra Rn)))))))) (ti_L (te_c1p oc_setI (tp_v (gv g0)))) (wp_c wp_n (rv (rv (ra (ra r0a))))) (tg_name (pv (pv (pa (pa p0a))))) (te_lc (Rw := (Rv (eP (eT eI) (eT (eP eI eI))) 0 0 (Rv (eT eI) 0 0 (Ra (Ra (Rv eI 0 0 (Ra (Ra Rn)))))))) (ti_enT (te_v (fv f0))) (wp_c (wp_c wp_n (rv (rv r0a))) (rv (rv (ra (ra (rv r0a)))))) (tg_2 (tg_name (pv (pv (pa (pa (pv p0a)))))) (tg_name (pv (pv p0a)))) (tt_cmp (on_2 (o_eq ok_I)) (td_P (tp_v (gv (gv g0))) (tp_v (gv (gv (gv (ga g0))))))) (wp_c (wp_c wp_n (rv (rv r0v))) (rv (rv (ra (ra (rv r0v)))))) (te_v (fv (fv (fv (fa (fv f0)))))) (wp_c (wp_c wp_n (rv (rv r0v))) (rv (rv (ra (ra (rv r0v)))))) (rs_c (rs_c rs_n (rv (rv r0a))) (rv (rv (ra (ra (rv r0a))))))) (wp_c wp_n (rv (rv (ra (ra r0v))))) (rs_c rs_n (rv (rv (ra (ra r0a)))))) (pv (pv (pa p0a)))))
    (tsx_seq (tsx_if (tt_not (tt_val (te_c1 (oc_1 o_all) (te_lm (Rw := (Rv (eP (eT eI) (eT (eP eI eI))) 0 0 (Rv (eT eI) 0 0 (Ra (Rv (eL (eL eI)) 0 0 (Ra (Ra (Ra Rn)))))))) (ti_L (te_v (fv (fv (fa f0))))) (wp_c wp_n (rv (rv (ra (rv (ra (ra r0a))))))) (tg_name (pv (pv (pa (pv (pa (pa p0a))))))) (te_call t_hangs_of_LLILI (ta_cons (te_call t_rows_of (ta_cons (te_v f0) ta_nil)) (ta_cons (te_v (fv (fv (fa (fv (fa (fa f0))))))) ta_nil))) (wp_c wp_n (rv (rv (ra (rv (ra (ra r0v))))))) (rs_c rs_n (rv (rv (ra (rv (ra (ra r0a))))))))))) tsx_raise tsx_nil)
    (tsx_up (ts_ret (te_call t_as_plan (ta_cons (te_v (fv (fv (fa f0)))) ta_nil)) wt)))))) : TFE D_plan_of (eCons (eP (eT eI) (eT (eP eI eI))) (eCons (eT eI) eNil)) (eT (eT eI)) 0 0 "Refused" _)
  exact h
/-! _law_told : P(T(I),T(P(I,I))), T(I), B to O(T(T(I))) -/
noncomputable def F__law_told : ((List Int) × (List (Int × Int))) × (List Int) × Bool × Unit → Option (Option (List (List Int))) := tRun (σ' := Unit) none (tSeq (tAsg (tOp1 (fun x => some ((fun x : Str × Unit => [x.1]) x)) (tPr (tK (σ := ((List Int) × (List (Int × Int))) × (List Int) × Bool × Unit) ("other" : Str)) (tK (σ := ((List Int) × (List (Int × Int))) × (List Int) × Bool × Unit) ()))) (fun (a : (List Str)) (s : ((List Int) × (List (Int × Int))) × (List Int) × Bool × Unit) => (s.1, s.2.1, s.2.2.1, a, s.2.2.2)))
    (tSeq (tTry (fun s => ((tIte (tV (fun s : ((List Int) × (List (Int × Int))) × (List Int) × Bool × (List Str) × Unit => s.2.2.1)) (tOp1 (fun x => F_plan_of ((fun x : (List Int) × ((List Int) × (List (Int × Int))) × Unit => (x.2.1, x.1, ())) x)) (tPr (tV (fun s : ((List Int) × (List (Int × Int))) × (List Int) × Bool × (List Str) × Unit => s.2.1)) (tPr (tV (fun s : ((List Int) × (List (Int × Int))) × (List Int) × Bool × (List Str) × Unit => s.1)) (tK (σ := ((List Int) × (List (Int × Int))) × (List Int) × Bool × (List Str) × Unit) ())))) (tOp1 F_plan_of (tPr (tV (fun s : ((List Int) × (List (Int × Int))) × (List Int) × Bool × (List Str) × Unit => s.1)) (tPr (tV (fun s : ((List Int) × (List (Int × Int))) × (List Int) × Bool × (List Str) × Unit => s.2.1)) (tK (σ := ((List Int) × (List (Int × Int))) × (List Int) × Bool × (List Str) × Unit) ()))))) s).map fun o => o.map some) (fun (a : (Option (List (List Int)))) (s : ((List Int) × (List (Int × Int))) × (List Int) × Bool × (List Str) × Unit) => (s.1, s.2.1, s.2.2.1, a, s.2.2.2.2)) (tPost (fun s : ((List Int) × (List (Int × Int))) × (List Int) × Bool × Unit × Unit => (s.1, s.2.1, s.2.2.1, ((fun _ => none) s.2.2.2.1), s.2.2.2.2)) (tAsg (tK (σ := ((List Int) × (List (Int × Int))) × (List Int) × Bool × (List Str) × Unit) ()) (fun (a : Unit) (s : ((List Int) × (List (Int × Int))) × (List Int) × Bool × (List Str) × Unit) => (s.1, s.2.1, s.2.2.1, a, s.2.2.2.2)))))
    (tRtX (fun s => some ((fun s : ((List Int) × (List (Int × Int))) × (List Int) × Bool × (Option (List (List Int))) × Unit => s.2.2.2.1) s, (fun s : ((List Int) × (List (Int × Int))) × (List Int) × Bool × (Option (List (List Int))) × Unit => (s.1, s.2.1, s.2.2.1, s.2.2.2.2)) s)) (fun _ : ((List Int) × (List (Int × Int))) × (List Int) × Bool × Unit => ()))))
theorem t__law_told : TF D__law_told (eCons (eP (eT eI) (eT (eP eI eI))) (eCons (eT eI) (eCons eB eNil))) (eO (eT (eT eI))) 0 0 F__law_told := by
  have h := (tf_run (R' := Rn) (m := 3) (vn := none) (wn := (fun _ h => nomatch h)) (in_c (in_c (in_c (in_a in_0)))) (ts_seq (ts_asg (te_tup (e := (eT eS)) (m := (fun x : Str × Unit => [x.1])) (k := 1) (ta_cons (te_p0 tp_k) ta_nil)) (pv (pv (pv p0a))))
    (ts_seq (ts_try (txe_as (e' := (eO (eT (eT eI)))) (m := some) (txe_if (tt_val (te_p1 (tp_v (gv (gv g0))))) (ln_val ln_p) (txe_callK (pm := (fun x : (List Int) × ((List Int) × (List (Int × Int))) × Unit => (x.2.1, x.1, ()))) t_plan_of (ta_cons (te_v (fv f0)) (ta_cons (te_v f0) ta_nil)) (ln_cons ln_v (ln_cons ln_v ln_nil))) (txe_call t_plan_of (ta_cons (te_v f0) (ta_cons (te_v (fv f0)) ta_nil)) (ln_cons ln_v (ln_cons ln_v ln_nil)))) (fun _ => rfl)) (pv (pv (pv p0v))) rfl (ts_post (R2 := (Rv (eP (eT eI) (eT (eP eI eI))) 0 0 (Rv (eT eI) 0 0 (Rv eB 0 0 (Rv (eO (eT (eT eI))) 0 0 Rn))))) (ts_asg (te_p0 (tp_k (e := eU) (a := ()))) (pv (pv (pv p0v)))) (wv (wv (wv (wm (m := (fun _ => none)) (fun _ => rfl) wn))))))
    (ts_retX (te_tk (gv (gv (gv g0))) (rv (rv (rv r0v)))) wt))) : TF D__law_told (eCons (eP (eT eI) (eT (eP eI eI))) (eCons (eT eI) (eCons eB eNil))) (eO (eT (eT eI))) 0 0 _)
  exact h
/-! _law_right : P(T(I),T(P(I,I))), T(I) to B -/
noncomputable def F__law_right_l1 : ((List Int) × (List (Int × Int))) × (List Int) × (List (Int × (List Int))) × Int × Int × Unit → Option (Fo Bool (Unit) (((List Int) × (List (Int × Int))) × (List Int) × (List (Int × (List Int))) × Int × Unit) (((List Int) × (List (Int × Int))) × (List Int) × (List (Int × (List Int))) × Int × Unit)) := (tPost (fun s : ((List Int) × (List (Int × Int))) × (List Int) × (List (Int × (List Int))) × Int × Int × Unit => (s.1, s.2.1, s.2.2.1, s.2.2.2.1, s.2.2.2.2.2)) (tPutKS (tX (tBn tCat (tPr (fun s : ((List Int) × (List (Int × Int))) × (List Int) × (List (Int × (List Int))) × Int × Int × Unit => ((tOp2 tIx (tV (fun s : ((List Int) × (List (Int × Int))) × (List Int) × (List (Int × (List Int))) × Int × Int × Unit => s.2.1)) (tV (fun s : ((List Int) × (List (Int × Int))) × (List Int) × (List (Int × (List Int))) × Int × Int × Unit => s.2.2.2.2.1))) s).bind fun k => ((tOp1 (fun x => some ((fun _ : Unit => ([] : (List Int))) x)) (tK (σ := ((List Int) × (List (Int × Int))) × (List Int) × (List (Int × (List Int))) × Int × Int × Unit) ())) s).map fun y => (tLook ((fun s : ((List Int) × (List (Int × Int))) × (List Int) × (List (Int × (List Int))) × Int × Int × Unit => s.2.2.1) s) k).getD y) (tOp1 (fun x => some ((fun x : Int × Unit => [x.1]) x)) (tPr (tV (fun s : ((List Int) × (List (Int × Int))) × (List Int) × (List (Int × (List Int))) × Int × Int × Unit => s.2.2.2.2.1)) (tK (σ := ((List Int) × (List (Int × Int))) × (List Int) × (List (Int × (List Int))) × Int × Int × Unit) ())))))) (tOp2 tIx (tV (fun s : ((List Int) × (List (Int × Int))) × (List Int) × (List (Int × (List Int))) × Int × Int × Unit => s.2.1)) (tV (fun s : ((List Int) × (List (Int × Int))) × (List Int) × (List (Int × (List Int))) × Int × Int × Unit => s.2.2.2.2.1))) (fun s : ((List Int) × (List (Int × Int))) × (List Int) × (List (Int × (List Int))) × Int × Int × Unit => s.2.2.1) (fun (a : (List (Int × (List Int)))) (s : ((List Int) × (List (Int × Int))) × (List Int) × (List (Int × (List Int))) × Int × Int × Unit) => (s.1, s.2.1, a, s.2.2.2))))
theorem t__law_right_l1 : TS (Rv (eP (eT eI) (eT (eP eI eI))) 0 0 (Rv (eT eI) 0 0 (Rv (eDi (eT eI)) 1 1 (Rv eI 0 0 (Rv eI 0 0 (Ra (Ra (Ra Rn)))))))) f__law_right_l1 eB 0 0 Rn (Rv (eP (eT eI) (eT (eP eI eI))) 0 0 (Rv (eT eI) 0 0 (Rv (eDi (eT eI)) 1 1 (Rv eI 0 0 (Ra (Ra (Ra (Ra Rn)))))))) F__law_right_l1 (Rv (eP (eT eI) (eT (eP eI eI))) 0 0 (Rv (eT eI) 0 0 (Rv (eDi (eT eI)) 1 1 (Rv eI 0 0 (Ra (Ra (Ra (Ra Rn)))))))) := by
  have h := ((ts_post (R2 := (Rv (eP (eT eI) (eT (eP eI eI))) 0 0 (Rv (eT eI) 0 0 (Rv (eDi (eT eI)) 1 1 (Rv eI 0 0 (Ra (Ra (Ra (Ra Rn))))))))) (ts_putK ((te_bin on_catT (td_Ep (te_dget (gv (gv g0)) (tp_ixT (tp_v (gv g0)) (tp_v (gv (gv (gv (gv g0)))))) (te_tup (e := (eT eI)) (m := (fun _ : Unit => ([] : (List Int)))) (k := 0) ta_nil) (gv (gv g0))) (te_tup (e := (eT eI)) (m := (fun x : Int × Unit => [x.1])) (k := 1) (ta_cons (te_v (fv (fv (fv (fv f0))))) ta_nil))))).x (gv (gv g0)) (tp_ixT (tp_v (gv g0)) (tp_v (gv (gv (gv (gv g0)))))) (pv (pv p0v))) (wv (wv (wv (wv (wd (wa (wa (wa wn))))))))) : TS (Rv (eP (eT eI) (eT (eP eI eI))) 0 0 (Rv (eT eI) 0 0 (Rv (eDi (eT eI)) 1 1 (Rv eI 0 0 (Rv eI 0 0 (Ra (Ra (Ra Rn)))))))) f__law_right_l1 eB 0 0 Rn (Rv (eP (eT eI) (eT (eP eI eI))) 0 0 (Rv (eT eI) 0 0 (Rv (eDi (eT eI)) 1 1 (Rv eI 0 0 (Ra (Ra (Ra (Ra Rn)))))))) _ (Rv (eP (eT eI) (eT (eP eI eI))) 0 0 (Rv (eT eI) 0 0 (Rv (eDi (eT eI)) 1 1 (Rv eI 0 0 (Ra (Ra (Ra (Ra Rn)))))))))
  exact h
noncomputable def F__law_right : ((List Int) × (List (Int × Int))) × (List Int) × Unit → Option Bool := tRun (σ' := Unit) none (tSeq (tPar (tX (tK (σ := ((List Int) × (List (Int × Int))) × (List Int) × Unit) ([] : (List (Int × (List Int)))))) (tX (tOp1 (fun a : (List Int) => some (a.length : Int)) (tOp1 (fun x => some ((fun x : ((List Int) × (List (Int × Int))) => x.1) x)) (tV (fun s : ((List Int) × (List (Int × Int))) × (List Int) × Unit => s.1))))) (fun (a : (List (Int × (List Int)))) (s : ((List Int) × (List (Int × Int))) × (List Int) × Unit) => (s.1, s.2.1, a, s.2.2)) (fun (a : Int) (s : ((List Int) × (List (Int × Int))) × (List Int) × (List (Int × (List Int))) × Unit) => (s.1, s.2.1, s.2.2.1, a, s.2.2.2)))
    (tSeq (tForS (tOp1 tRg (tV (fun s : ((List Int) × (List (Int × Int))) × (List Int) × (List (Int × (List Int))) × Int × Unit => s.2.2.2.1))) (fun s : ((List Int) × (List (Int × Int))) × (List Int) × (List (Int × (List Int))) × Int × Unit => s) (fun (a : Int) (s : ((List Int) × (List (Int × Int))) × (List Int) × (List (Int × (List Int))) × Int × Unit) => (s.1, s.2.1, s.2.2.1, s.2.2.2.1, a, s.2.2.2.2)) F__law_right_l1)
    (tSeq (tAsg (tOp1 (fun a : (List (List Int)) => some a) (tOp1 tSortL (tLm (fun s => some (((fun s : ((List Int) × (List (Int × Int))) × (List Int) × (List (Int × (List Int))) × Int × Unit => s.2.2.1) s).map (·.1))) (fun (a : Int) (s : ((List Int) × (List (Int × Int))) × (List Int) × (List (Int × (List Int))) × Int × Unit) => (s.1, s.2.1, s.2.2.1, s.2.2.2.1, a, s.2.2.2.2)) (fun s : ((List Int) × (List (Int × Int))) × (List Int) × (List (Int × (List Int))) × Int × Int × Unit => ((tV (fun s : ((List Int) × (List (Int × Int))) × (List Int) × (List (Int × (List Int))) × Int × Int × Unit => s.2.2.2.2.1)) s).bind fun k => tLook ((fun s : ((List Int) × (List (Int × Int))) × (List Int) × (List (Int × (List Int))) × Int × Int × Unit => s.2.2.1) s) k)))) (fun (a : (List (List Int))) (s : ((List Int) × (List (Int × Int))) × (List Int) × (List (Int × (List Int))) × Int × Unit) => (s.1, s.2.1, s.2.2.1, s.2.2.2.1, a, s.2.2.2.2)))
    (tSeq (tAsg (tIte (tBn tEq (tPr (tLc (tV (fun s : ((List Int) × (List (Int × Int))) × (List Int) × (List (Int × (List Int))) × Int × (List (List Int)) × Unit => s.2.2.2.2.1)) (fun (a : (List Int)) (s : ((List Int) × (List (Int × Int))) × (List Int) × (List (Int × (List Int))) × Int × (List (List Int)) × Unit) => (s.1, s.2.1, s.2.2.1, s.2.2.2.1, s.2.2.2.2.1, a, s.2.2.2.2.2)) (tBn tNe (tPr (tOp1 F__law_reached (tPr (tV (fun s : ((List Int) × (List (Int × Int))) × (List Int) × (List (Int × (List Int))) × Int × (List (List Int)) × (List Int) × Unit => s.1)) (tPr (tV (fun s : ((List Int) × (List (Int × Int))) × (List Int) × (List (Int × (List Int))) × Int × (List (List Int)) × (List Int) × Unit => s.2.2.2.2.2.1)) (tPr (tOp2 tIx (tV (fun s : ((List Int) × (List (Int × Int))) × (List Int) × (List (Int × (List Int))) × Int × (List (List Int)) × (List Int) × Unit => s.2.2.2.2.2.1)) (tK (σ := ((List Int) × (List (Int × Int))) × (List Int) × (List (Int × (List Int))) × Int × (List (List Int)) × (List Int) × Unit) (0 : Int))) (tK (σ := ((List Int) × (List (Int × Int))) × (List Int) × (List (Int × (List Int))) × Int × (List (List Int)) × (List Int) × Unit) ()))))) (tV (fun s : ((List Int) × (List (Int × Int))) × (List Int) × (List (Int × (List Int))) × Int × (List (List Int)) × (List Int) × Unit => s.2.2.2.2.2.1)))) (tV (fun s : ((List Int) × (List (Int × Int))) × (List Int) × (List (Int × (List Int))) × Int × (List (List Int)) × (List Int) × Unit => s.2.2.2.2.2.1))) (tOp1 (fun x => some ((fun _ : Unit => ([] : (List (List Int)))) x)) (tK (σ := ((List Int) × (List (Int × Int))) × (List Int) × (List (Int × (List Int))) × Int × (List (List Int)) × Unit) ())))) (tOp1 (fun a => some (some a)) (tV (fun s : ((List Int) × (List (Int × Int))) × (List Int) × (List (Int × (List Int))) × Int × (List (List Int)) × Unit => s.2.2.2.2.1))) (tOp1 (fun a => some ((fun _ => none) a)) (tK (σ := ((List Int) × (List (Int × Int))) × (List Int) × (List (Int × (List Int))) × Int × (List (List Int)) × Unit) ()))) (fun (a : (Option (List (List Int)))) (s : ((List Int) × (List (Int × Int))) × (List Int) × (List (Int × (List Int))) × Int × (List (List Int)) × Unit) => (s.1, s.2.1, s.2.2.1, s.2.2.2.1, a, s.2.2.2.2.2)))
    (tRt (tOp1 (F__law_alike (eL (eO (eT (eT eI))))) (tPr (tOp1 (fun x => some ((fun x : (Option (List (List Int))) × (Option (List (List Int))) × Unit => [x.1, x.2.1]) x)) (tPr (tOp1 F__law_told (tPr (tV (fun s : ((List Int) × (List (Int × Int))) × (List Int) × (List (Int × (List Int))) × Int × (Option (List (List Int))) × Unit => s.1)) (tPr (tV (fun s : ((List Int) × (List (Int × Int))) × (List Int) × (List (Int × (List Int))) × Int × (Option (List (List Int))) × Unit => s.2.1)) (tPr (tK (σ := ((List Int) × (List (Int × Int))) × (List Int) × (List (Int × (List Int))) × Int × (Option (List (List Int))) × Unit) false) (tK (σ := ((List Int) × (List (Int × Int))) × (List Int) × (List (Int × (List Int))) × Int × (Option (List (List Int))) × Unit) ()))))) (tPr (tOp1 F__law_told (tPr (tV (fun s : ((List Int) × (List (Int × Int))) × (List Int) × (List (Int × (List Int))) × Int × (Option (List (List Int))) × Unit => s.1)) (tPr (tV (fun s : ((List Int) × (List (Int × Int))) × (List Int) × (List (Int × (List Int))) × Int × (Option (List (List Int))) × Unit => s.2.1)) (tPr (tK (σ := ((List Int) × (List (Int × Int))) × (List Int) × (List (Int × (List Int))) × Int × (Option (List (List Int))) × Unit) true) (tK (σ := ((List Int) × (List (Int × Int))) × (List Int) × (List (Int × (List Int))) × Int × (Option (List (List Int))) × Unit) ()))))) (tK (σ := ((List Int) × (List (Int × Int))) × (List Int) × (List (Int × (List Int))) × Int × (Option (List (List Int))) × Unit) ())))) (tPr (tOp1 (fun x => some ((fun x : (Option (List (List Int))) × (Option (List (List Int))) × Unit => [x.1, x.2.1]) x)) (tPr (tV (fun s : ((List Int) × (List (Int × Int))) × (List Int) × (List (Int × (List Int))) × Int × (Option (List (List Int))) × Unit => s.2.2.2.2.1)) (tPr (tV (fun s : ((List Int) × (List (Int × Int))) × (List Int) × (List (Int × (List Int))) × Int × (Option (List (List Int))) × Unit => s.2.2.2.2.1)) (tK (σ := ((List Int) × (List (Int × Int))) × (List Int) × (List (Int × (List Int))) × Int × (Option (List (List Int))) × Unit) ())))) (tK (σ := ((List Int) × (List (Int × Int))) × (List Int) × (List (Int × (List Int))) × Int × (Option (List (List Int))) × Unit) ())))) (fun _ : ((List Int) × (List (Int × Int))) × (List Int) × (List (Int × (List Int))) × Int × (Option (List (List Int))) × Unit => ()))))))
theorem t__law_right : TF D__law_right (eCons (eP (eT eI) (eT (eP eI eI))) (eCons (eT eI) eNil)) eB 0 0 F__law_right := by
  have h := (tf_run (R' := Rn) (m := 2) (vn := none) (wn := (fun _ h => nomatch h)) (in_c (in_c (in_a (in_a (in_a (in_a (in_a (in_a in_0)))))))) (ts_seq (ts_par (te_dicK).x ((te_p0 (tp_c1 o_lenT (tp_ixC (e := (eT eI)) (g := (fun x : ((List Int) × (List (Int × Int))) => x.1)) (tp_v g0))))).x (pv (pv p0a)) (pv (pv (pv p0a))))
    (ts_seq (ts_for (R := (Rv (eP (eT eI) (eT (eP eI eI))) 0 0 (Rv (eT eI) 0 0 (Rv (eDi (eT eI)) 1 1 (Rv eI 0 0 (Ra (Ra (Ra (Ra Rn))))))))) (ti_r1 (tp_v (gv (gv (gv g0))))) (wv (wv (wv (wv (wa (wa (wa (wa wn)))))))) (tg_name (pv (pv (pv (pv p0a))))) t__law_right_l1)
    (ts_seq (ts_asg (te_c1 (oc_tupleL (h1 := 1)) (te_c1 oc_sortL (te_lm (Rw := (Rv (eP (eT eI) (eT (eP eI eI))) 0 0 (Rv (eT eI) 0 0 (Rv (eDi (eT eI)) 0 0 (Rv eI 0 0 (Ra (Ra (Ra (Ra Rn))))))))) (ti_dicK (gv (gv g0)) (pv (pv p0v))) (wp_c wp_n (rv (rv (rv (rv (ra (ra r0a))))))) (tg_name (pv (pv (pv (pv (pa (pa p0a))))))) (te_p0 (tp_dget (gv (gv g0)) (tp_v (gv (gv (gv (gv (ga (ga g0))))))))) (wp_c wp_n (rv (rv (rv (rv (ra (ra r0v))))))) (rs_c rs_n (rv (rv (rv (rv (ra (ra r0a)))))))))) (pv (pv (pv (pv (pa p0a))))))
    (ts_seq (ts_asg (te_if (tt_cmp (on_2 (o_eq (ok_L (ok_T ok_I)))) (td_Ep (te_lc (Rw := (Rv (eP (eT eI) (eT (eP eI eI))) 0 0 (Rv (eT eI) 0 0 (Rv (eDi (eT eI)) 0 0 (Rv eI 0 0 (Ra (Rv (eT (eT eI)) 0 0 (Ra (Ra Rn))))))))) (ti_T (te_v (fv (fv (fv (fv (fa f0))))))) (wp_c wp_n (rv (rv (rv (rv (ra (rv (ra r0a)))))))) (tg_name (pv (pv (pv (pv (pa (pv (pa p0a)))))))) (tt_cmp (on_2 (o_ne (ok_T ok_I))) (td_Ep (te_call t__law_reached (ta_cons (te_v f0) (ta_cons (te_v (fv (fv (fv (fv (fa (fv (fa f0)))))))) (ta_cons (te_p0 (tp_ixT (tp_v (gv (gv (gv (gv (ga (gv (ga g0)))))))) tp_k)) ta_nil)))) (te_p1 (tp_v (gv (gv (gv (gv (ga (gv (ga g0))))))))))) (wp_c wp_n (rv (rv (rv (rv (ra (rv (ra r0v)))))))) (te_v (fv (fv (fv (fv (fa (fv (fa f0)))))))) (wp_c wp_n (rv (rv (rv (rv (ra (rv (ra r0v)))))))) (rs_c rs_n (rv (rv (rv (rv (ra (rv (ra r0a))))))))) (te_lst (e := (eL (eT eI))) (m := (fun _ : Unit => ([] : (List (List Int))))) (k := 0) ta_nil))) (te_as (f := (eO (eT (eT eI)))) (m := some) (te_v (fv (fv (fv (fv (fa f0)))))) (fun _ => rfl)) (te_as (f := (eO (eT (eT eI)))) (m := (fun _ => none)) (te_p0 (tp_k (e := eU) (a := ()))) (fun _ => rfl))) (pv (pv (pv (pv (pa p0v))))))
    (ts_ret (te_call (t__law_alike (e := (eL (eO (eT (eT eI)))))) (ta_cons (te_lst (e := (eL (eO (eT (eT eI))))) (m := (fun x : (Option (List (List Int))) × (Option (List (List Int))) × Unit => [x.1, x.2.1])) (k := 2) (ta_cons (te_call t__law_told (ta_cons (te_v f0) (ta_cons (te_v (fv f0)) (ta_cons (te_p0 tp_k) ta_nil)))) (ta_cons (te_call t__law_told (ta_cons (te_v f0) (ta_cons (te_v (fv f0)) (ta_cons (te_p0 tp_k) ta_nil)))) ta_nil))) (ta_cons (te_lst (e := (eL (eO (eT (eT eI))))) (m := (fun x : (Option (List (List Int))) × (Option (List (List Int))) × Unit => [x.1, x.2.1])) (k := 2) (ta_cons (te_v (fv (fv (fv (fv (fa f0)))))) (ta_cons (te_v (fv (fv (fv (fv (fa f0)))))) ta_nil))) ta_nil))) wt))))) : TF D__law_right (eCons (eP (eT eI) (eT (eP eI eI))) (eCons (eT eI) eNil)) eB 0 0 _)
  exact h
/-! law : L(I) to B -/
noncomputable def F_law_l3 : (List Int) × D × Int × ((List Int) × (List (Int × Int))) × (List (List Int)) × Int × (List Int) × (List Int) × Int × Unit → Option (Fo Bool (Unit) ((List Int) × D × Int × ((List Int) × (List (Int × Int))) × (List (List Int)) × Int × (List Int) × (List Int) × Int × Unit) ((List Int) × D × Int × ((List Int) × (List (Int × Int))) × (List (List Int)) × Int × (List Int) × (List Int) × Int × Unit)) := (tAsg (tOp2 (fun a b => some (a + b)) (tV (fun s : (List Int) × D × Int × ((List Int) × (List (Int × Int))) × (List (List Int)) × Int × (List Int) × (List Int) × Int × Unit => s.2.2.2.2.2.2.2.2.1)) (tK (σ := (List Int) × D × Int × ((List Int) × (List (Int × Int))) × (List (List Int)) × Int × (List Int) × (List Int) × Int × Unit) (1 : Int))) (fun (a : Int) (s : (List Int) × D × Int × ((List Int) × (List (Int × Int))) × (List (List Int)) × Int × (List Int) × (List Int) × Int × Unit) => (s.1, s.2.1, s.2.2.1, s.2.2.2.1, s.2.2.2.2.1, s.2.2.2.2.2.1, s.2.2.2.2.2.2.1, s.2.2.2.2.2.2.2.1, a, s.2.2.2.2.2.2.2.2.2)))
theorem t_law_l3 : TS (Rv (eL eI) 0 0 (Rv eD 2 2 (Rv eI 0 0 (Rv (eP (eT eI) (eT (eP eI eI))) 0 0 (Rv (eT (eT eI)) 0 0 (Rv eI 0 0 (Rv (eL eI) 1 1 (Rv (eL eI) 1 1 (Rv eI 0 0 (Ra Rn)))))))))) f_law_w1 eB 0 0 Rn (Rv (eL eI) 0 0 (Rv eD 2 2 (Rv eI 0 0 (Rv (eP (eT eI) (eT (eP eI eI))) 0 0 (Rv (eT (eT eI)) 0 0 (Rv eI 0 0 (Rv (eL eI) 1 1 (Rv (eL eI) 1 1 (Rv eI 0 0 (Ra Rn)))))))))) F_law_l3 (Rv (eL eI) 0 0 (Rv eD 2 2 (Rv eI 0 0 (Rv (eP (eT eI) (eT (eP eI eI))) 0 0 (Rv (eT (eT eI)) 0 0 (Rv eI 0 0 (Rv (eL eI) 1 1 (Rv (eL eI) 1 1 (Rv eI 0 0 (Ra Rn)))))))))) := by
  have h := ((ts_asg (te_p0 (tp_bin o_add (tp_v (gv (gv (gv (gv (gv (gv (gv (gv g0))))))))) tp_k)) (pv (pv (pv (pv (pv (pv (pv (pv p0v))))))))) : TS (Rv (eL eI) 0 0 (Rv eD 2 2 (Rv eI 0 0 (Rv (eP (eT eI) (eT (eP eI eI))) 0 0 (Rv (eT (eT eI)) 0 0 (Rv eI 0 0 (Rv (eL eI) 1 1 (Rv (eL eI) 1 1 (Rv eI 0 0 (Ra Rn)))))))))) f_law_w1 eB 0 0 Rn (Rv (eL eI) 0 0 (Rv eD 2 2 (Rv eI 0 0 (Rv (eP (eT eI) (eT (eP eI eI))) 0 0 (Rv (eT (eT eI)) 0 0 (Rv eI 0 0 (Rv (eL eI) 1 1 (Rv (eL eI) 1 1 (Rv eI 0 0 (Ra Rn)))))))))) _ (Rv (eL eI) 0 0 (Rv eD 2 2 (Rv eI 0 0 (Rv (eP (eT eI) (eT (eP eI eI))) 0 0 (Rv (eT (eT eI)) 0 0 (Rv eI 0 0 (Rv (eL eI) 1 1 (Rv (eL eI) 1 1 (Rv eI 0 0 (Ra Rn)))))))))))
  exact h
noncomputable def F_law_l3_t : (List Int) × D × Int × ((List Int) × (List (Int × Int))) × (List (List Int)) × Int × (List Int) × (List Int) × Int × Unit → Option Bool := (tBn tIn (tPr (tV (fun s : (List Int) × D × Int × ((List Int) × (List (Int × Int))) × (List (List Int)) × Int × (List Int) × (List Int) × Int × Unit => s.2.2.2.2.2.2.2.2.1)) (tV (fun s : (List Int) × D × Int × ((List Int) × (List (Int × Int))) × (List (List Int)) × Int × (List Int) × (List Int) × Int × Unit => s.2.2.2.2.2.2.1))))
noncomputable def F_law_l4 : (List Int) × D × Int × ((List Int) × (List (Int × Int))) × (List (List Int)) × Int × (List Int) × (List Int) × Int × Int × Unit → Option (Fo Bool (Unit) ((List Int) × D × Int × ((List Int) × (List (Int × Int))) × (List (List Int)) × Int × (List Int) × (List Int) × Int × Unit) ((List Int) × D × Int × ((List Int) × (List (Int × Int))) × (List (List Int)) × Int × (List Int) × (List Int) × Int × Unit)) := (tPost (fun s : (List Int) × D × Int × ((List Int) × (List (Int × Int))) × (List (List Int)) × Int × (List Int) × (List Int) × Int × Int × Unit => (s.1, s.2.1, s.2.2.1, s.2.2.2.1, s.2.2.2.2.1, s.2.2.2.2.2.1, s.2.2.2.2.2.2.1, s.2.2.2.2.2.2.2.1, s.2.2.2.2.2.2.2.2.1, s.2.2.2.2.2.2.2.2.2.2)) (tSetS (tX (tV (fun s : (List Int) × D × Int × ((List Int) × (List (Int × Int))) × (List (List Int)) × Int × (List Int) × (List Int) × Int × Int × Unit => s.2.2.2.2.2.2.2.2.1))) (tV (fun s : (List Int) × D × Int × ((List Int) × (List (Int × Int))) × (List (List Int)) × Int × (List Int) × (List Int) × Int × Int × Unit => s.2.2.2.2.2.2.2.2.2.1)) (fun s : (List Int) × D × Int × ((List Int) × (List (Int × Int))) × (List (List Int)) × Int × (List Int) × (List Int) × Int × Int × Unit => s.2.2.2.2.2.2.2.1) (fun (a : (List Int)) (s : (List Int) × D × Int × ((List Int) × (List (Int × Int))) × (List (List Int)) × Int × (List Int) × (List Int) × Int × Int × Unit) => (s.1, s.2.1, s.2.2.1, s.2.2.2.1, s.2.2.2.2.1, s.2.2.2.2.2.1, s.2.2.2.2.2.2.1, a, s.2.2.2.2.2.2.2.2))))
theorem t_law_l4 : TS (Rv (eL eI) 0 0 (Rv eD 2 2 (Rv eI 0 0 (Rv (eP (eT eI) (eT (eP eI eI))) 0 0 (Rv (eT (eT eI)) 0 0 (Rv eI 0 0 (Rv (eL eI) 1 1 (Rv (eL eI) 1 1 (Rv eI 0 0 (Rv eI 0 0 Rn)))))))))) f_law_l1 eB 0 0 Rn (Rv (eL eI) 0 0 (Rv eD 2 2 (Rv eI 0 0 (Rv (eP (eT eI) (eT (eP eI eI))) 0 0 (Rv (eT (eT eI)) 0 0 (Rv eI 0 0 (Rv (eL eI) 1 1 (Rv (eL eI) 1 1 (Rv eI 0 0 (Ra Rn)))))))))) F_law_l4 (Rv (eL eI) 0 0 (Rv eD 2 2 (Rv eI 0 0 (Rv (eP (eT eI) (eT (eP eI eI))) 0 0 (Rv (eT (eT eI)) 0 0 (Rv eI 0 0 (Rv (eL eI) 1 1 (Rv (eL eI) 1 1 (Rv eI 0 0 (Ra Rn)))))))))) := by
  have h := ((ts_post (R2 := (Rv (eL eI) 0 0 (Rv eD 2 2 (Rv eI 0 0 (Rv (eP (eT eI) (eT (eP eI eI))) 0 0 (Rv (eT (eT eI)) 0 0 (Rv eI 0 0 (Rv (eL eI) 1 1 (Rv (eL eI) 1 1 (Rv eI 0 0 (Ra Rn))))))))))) (ts_set ((te_v (fv (fv (fv (fv (fv (fv (fv (fv f0)))))))))).x (gv (gv (gv (gv (gv (gv (gv g0))))))) (tp_v (gv (gv (gv (gv (gv (gv (gv (gv (gv g0)))))))))) (pv (pv (pv (pv (pv (pv (pv p0v)))))))) (wv (wv (wv (wv (wv (wv (wv (wv (wv (wd wn))))))))))) : TS (Rv (eL eI) 0 0 (Rv eD 2 2 (Rv eI 0 0 (Rv (eP (eT eI) (eT (eP eI eI))) 0 0 (Rv (eT (eT eI)) 0 0 (Rv eI 0 0 (Rv (eL eI) 1 1 (Rv (eL eI) 1 1 (Rv eI 0 0 (Rv eI 0 0 Rn)))))))))) f_law_l1 eB 0 0 Rn (Rv (eL eI) 0 0 (Rv eD 2 2 (Rv eI 0 0 (Rv (eP (eT eI) (eT (eP eI eI))) 0 0 (Rv (eT (eT eI)) 0 0 (Rv eI 0 0 (Rv (eL eI) 1 1 (Rv (eL eI) 1 1 (Rv eI 0 0 (Ra Rn)))))))))) _ (Rv (eL eI) 0 0 (Rv eD 2 2 (Rv eI 0 0 (Rv (eP (eT eI) (eT (eP eI eI))) 0 0 (Rv (eT (eT eI)) 0 0 (Rv eI 0 0 (Rv (eL eI) 1 1 (Rv (eL eI) 1 1 (Rv eI 0 0 (Ra Rn)))))))))))
  exact h
noncomputable def F_law_l2 : (List Int) × D × Int × ((List Int) × (List (Int × Int))) × (List (List Int)) × Int × (List Int) × (List Int) × Unit → Option (Fo Bool (Unit) ((List Int) × D × Int × ((List Int) × (List (Int × Int))) × (List (List Int)) × (List Int) × (List Int) × Unit) ((List Int) × D × Int × ((List Int) × (List (Int × Int))) × (List (List Int)) × (List Int) × (List Int) × Unit)) := (tPost (fun s : (List Int) × D × Int × ((List Int) × (List (Int × Int))) × (List (List Int)) × Int × (List Int) × (List Int) × Int × Unit => (s.1, s.2.1, s.2.2.1, s.2.2.2.1, s.2.2.2.2.1, s.2.2.2.2.2.2.1, s.2.2.2.2.2.2.2.1, s.2.2.2.2.2.2.2.2.2)) (tSeq (tAsgX (tBnX tIx (tPrX (fun s => ((tPrX (tBnX (fun a b => some (a - b)) (tPrX (tIO (fun s : (List Int) × D × Int × ((List Int) × (List (Int × Int))) × (List (List Int)) × Int × (List Int) × (List Int) × Unit => s.2.1) (fun (a : D) (s : (List Int) × D × Int × ((List Int) × (List (Int × Int))) × (List (List Int)) × Int × (List Int) × (List Int) × Unit) => (s.1, a, s.2.2)) F__law_drop (tX (tPr (tK (σ := (List Int) × D × Int × ((List Int) × (List (Int × Int))) × (List (List Int)) × Int × (List Int) × (List Int) × Unit) (30 : Int)) (tK (σ := (List Int) × D × Int × ((List Int) × (List (Int × Int))) × (List (List Int)) × Int × (List Int) × (List Int) × Unit) ())))) (tX (tK (σ := (List Int) × D × Int × ((List Int) × (List (Int × Int))) × (List (List Int)) × Int × (List Int) × (List Int) × Unit) (9 : Int))))) (tPrX (tX (tV (fun s : (List Int) × D × Int × ((List Int) × (List (Int × Int))) × (List (List Int)) × Int × (List Int) × (List Int) × Unit => s.2.2.2.2.2.1))) (tPrX (tBnX (fun a b : Int => some (a + b)) (tPrX (tX (tOp1 (fun x : Int => some (-x)) (tOp2 tPow (tK (σ := (List Int) × D × Int × ((List Int) × (List (Int × Int))) × (List (List Int)) × Int × (List Int) × (List Int) × Unit) (10 : Int)) (tK (σ := (List Int) × D × Int × ((List Int) × (List (Int × Int))) × (List (List Int)) × Int × (List Int) × (List Int) × Unit) (40 : Int))))) (tIO (fun s : (List Int) × D × Int × ((List Int) × (List (Int × Int))) × (List (List Int)) × Int × (List Int) × (List Int) × Unit => s.2.1) (fun (a : D) (s : (List Int) × D × Int × ((List Int) × (List (Int × Int))) × (List (List Int)) × Int × (List Int) × (List Int) × Unit) => (s.1, a, s.2.2)) F__law_drop (tX (tPr (tK (σ := (List Int) × D × Int × ((List Int) × (List (Int × Int))) × (List (List Int)) × Int × (List Int) × (List Int) × Unit) (9 : Int)) (tK (σ := (List Int) × D × Int × ((List Int) × (List (Int × Int))) × (List (List Int)) × Int × (List Int) × (List Int) × Unit) ())))))) (tX (tK (σ := (List Int) × D × Int × ((List Int) × (List (Int × Int))) × (List (List Int)) × Int × (List Int) × (List Int) × Unit) ()))))) s).map fun p => ((fun x : Int × Int × Int × Unit => [x.1, x.2.1, x.2.2.1]) p.1, p.2)) (tIO (fun s : (List Int) × D × Int × ((List Int) × (List (Int × Int))) × (List (List Int)) × Int × (List Int) × (List Int) × Unit => s.2.1) (fun (a : D) (s : (List Int) × D × Int × ((List Int) × (List (Int × Int))) × (List (List Int)) × Int × (List Int) × (List Int) × Unit) => (s.1, a, s.2.2)) F__law_drop (tX (tPr (tK (σ := (List Int) × D × Int × ((List Int) × (List (Int × Int))) × (List (List Int)) × Int × (List Int) × (List Int) × Unit) (3 : Int)) (tK (σ := (List Int) × D × Int × ((List Int) × (List (Int × Int))) × (List (List Int)) × Int × (List Int) × (List Int) × Unit) ())))))) (fun (a : Int) (s : (List Int) × D × Int × ((List Int) × (List (Int × Int))) × (List (List Int)) × Int × (List Int) × (List Int) × Unit) => (s.1, s.2.1, s.2.2.1, s.2.2.2.1, s.2.2.2.2.1, s.2.2.2.2.2.1, s.2.2.2.2.2.2.1, s.2.2.2.2.2.2.2.1, a, s.2.2.2.2.2.2.2.2)))
    (tSeq (fun s => tWhile F_law_l3_t F_law_l3 fuel ((fun s : (List Int) × D × Int × ((List Int) × (List (Int × Int))) × (List (List Int)) × Int × (List Int) × (List Int) × Int × Unit => s) s))
    (tSeq (tAppS (tX (tV (fun s : (List Int) × D × Int × ((List Int) × (List (Int × Int))) × (List (List Int)) × Int × (List Int) × (List Int) × Int × Unit => s.2.2.2.2.2.2.2.2.1))) (fun s : (List Int) × D × Int × ((List Int) × (List (Int × Int))) × (List (List Int)) × Int × (List Int) × (List Int) × Int × Unit => s.2.2.2.2.2.2.1) (fun (a : (List Int)) (s : (List Int) × D × Int × ((List Int) × (List (Int × Int))) × (List (List Int)) × Int × (List Int) × (List Int) × Int × Unit) => (s.1, s.2.1, s.2.2.1, s.2.2.2.1, s.2.2.2.2.1, s.2.2.2.2.2.1, a, s.2.2.2.2.2.2.2)))
    (tForS (tOp2 tIx (tV (fun s : (List Int) × D × Int × ((List Int) × (List (Int × Int))) × (List (List Int)) × Int × (List Int) × (List Int) × Int × Unit => s.2.2.2.2.1)) (tV (fun s : (List Int) × D × Int × ((List Int) × (List (Int × Int))) × (List (List Int)) × Int × (List Int) × (List Int) × Int × Unit => s.2.2.2.2.2.1))) (fun s : (List Int) × D × Int × ((List Int) × (List (Int × Int))) × (List (List Int)) × Int × (List Int) × (List Int) × Int × Unit => s) (fun (a : Int) (s : (List Int) × D × Int × ((List Int) × (List (Int × Int))) × (List (List Int)) × Int × (List Int) × (List Int) × Int × Unit) => (s.1, s.2.1, s.2.2.1, s.2.2.2.1, s.2.2.2.2.1, s.2.2.2.2.2.1, s.2.2.2.2.2.2.1, s.2.2.2.2.2.2.2.1, s.2.2.2.2.2.2.2.2.1, a, s.2.2.2.2.2.2.2.2.2)) F_law_l4)))))
theorem t_law_l2 : TS (Rv (eL eI) 0 0 (Rv eD 2 2 (Rv eI 0 0 (Rv (eP (eT eI) (eT (eP eI eI))) 0 0 (Rv (eT (eT eI)) 0 0 (Rv eI 0 0 (Rv (eL eI) 1 1 (Rv (eL eI) 1 1 (Ra (Ra Rn)))))))))) f_law_l2 eB 0 0 Rn (Rv (eL eI) 0 0 (Rv eD 2 2 (Rv eI 0 0 (Rv (eP (eT eI) (eT (eP eI eI))) 0 0 (Rv (eT (eT eI)) 0 0 (Ra (Rv (eL eI) 1 1 (Rv (eL eI) 1 1 (Ra (Ra Rn)))))))))) F_law_l2 (Rv (eL eI) 0 0 (Rv eD 2 2 (Rv eI 0 0 (Rv (eP (eT eI) (eT (eP eI eI))) 0 0 (Rv (eT (eT eI)) 0 0 (Ra (Rv (eL eI) 1 1 (Rv (eL eI) 1 1 (Ra (Ra Rn)))))))))) := by
  have h := ((ts_post (R2 := (Rv (eL eI) 0 0 (Rv eD 2 2 (Rv eI 0 0 (Rv (eP (eT eI) (eT (eP eI eI))) 0 0 (Rv (eT (eT eI)) 0 0 (Ra (Rv (eL eI) 1 1 (Rv (eL eI) 1 1 (Ra (Ra Rn))))))))))) (ts_seq (ts_asgX (tx_ix (oi_L1 (h1 := 1)) (td_E (tx_lst (e := (eL eI)) (m := (fun x : Int × Int × Int × Unit => [x.1, x.2.1, x.2.2.1])) (k := 3) (ta_consX (tx_bin (on_2 o_sub) (td_E (tx_io t__law_drop (gv g0) ((ta_cons (te_p0 tp_k) ta_nil)).x (gv g0) (pv p0v)) ((te_p1 tp_k)).x)) (ta_consX ((te_v (fv (fv (fv (fv (fv f0))))))).x (ta_consX (tx_bin on_add (td_E ((te_p0 (tp_neg (tp_bin o_pow tp_k tp_k)))).x (tx_io t__law_drop (gv g0) ((ta_cons (te_p0 tp_k) ta_nil)).x (gv g0) (pv p0v)))) (ta_nil).x)))) (tx_io t__law_drop (gv g0) ((ta_cons (te_p0 tp_k) ta_nil)).x (gv g0) (pv p0v)))) (pv (pv (pv (pv (pv (pv (pv (pv p0a)))))))))
    (ts_seq (ts_while (R := (Rv (eL eI) 0 0 (Rv eD 2 2 (Rv eI 0 0 (Rv (eP (eT eI) (eT (eP eI eI))) 0 0 (Rv (eT (eT eI)) 0 0 (Rv eI 0 0 (Rv (eL eI) 1 1 (Rv (eL eI) 1 1 (Rv eI 0 0 (Ra Rn))))))))))) (C := F_law_l3_t) (wv (wv (wv (wv (wv (wv (wv (wv (wv (wa wn)))))))))) (tt_cmp (on_2 (o_inL ok_I)) (td_P (tp_v (gv (gv (gv (gv (gv (gv (gv (gv g0))))))))) (tp_v (gv (gv (gv (gv (gv (gv g0))))))))) t_law_l3 (wv (wv (wv (wv (wv (wv (wv (wv (wv (wa wn)))))))))))
    (ts_seq (ts_app (gv (gv (gv (gv (gv (gv g0)))))) ((te_v (fv (fv (fv (fv (fv (fv (fv (fv f0)))))))))).x (gv (gv (gv (gv (gv (gv g0)))))) (pv (pv (pv (pv (pv (pv p0v)))))))
    (ts_for (R := (Rv (eL eI) 0 0 (Rv eD 2 2 (Rv eI 0 0 (Rv (eP (eT eI) (eT (eP eI eI))) 0 0 (Rv (eT (eT eI)) 0 0 (Rv eI 0 0 (Rv (eL eI) 1 1 (Rv (eL eI) 1 1 (Rv eI 0 0 (Ra Rn))))))))))) (ti_T (te_p0 (tp_ixT (tp_v (gv (gv (gv (gv g0))))) (tp_v (gv (gv (gv (gv (gv g0))))))))) (wv (wv (wv (wv (wv (wv (wv (wv (wv (wa wn)))))))))) (tg_name (pv (pv (pv (pv (pv (pv (pv (pv (pv p0a)))))))))) t_law_l4)))) (wv (wv (wv (wv (wv (wd (wv (wv (wd (wa wn))))))))))) : TS (Rv (eL eI) 0 0 (Rv eD 2 2 (Rv eI 0 0 (Rv (eP (eT eI) (eT (eP eI eI))) 0 0 (Rv (eT (eT eI)) 0 0 (Rv eI 0 0 (Rv (eL eI) 1 1 (Rv (eL eI) 1 1 (Ra (Ra Rn)))))))))) f_law_l2 eB 0 0 Rn (Rv (eL eI) 0 0 (Rv eD 2 2 (Rv eI 0 0 (Rv (eP (eT eI) (eT (eP eI eI))) 0 0 (Rv (eT (eT eI)) 0 0 (Ra (Rv (eL eI) 1 1 (Rv (eL eI) 1 1 (Ra (Ra Rn)))))))))) _ (Rv (eL eI) 0 0 (Rv eD 2 2 (Rv eI 0 0 (Rv (eP (eT eI) (eT (eP eI eI))) 0 0 (Rv (eT (eT eI)) 0 0 (Ra (Rv (eL eI) 1 1 (Rv (eL eI) 1 1 (Ra (Ra Rn)))))))))))
  exact h
noncomputable def F_law_k1 : (List Int) × D × Int × ((List Int) × (List (Int × Int))) × (List (List Int)) × (List Int) × (List Int) × Unit → Option ((List Int) × ((List Int) × D × Int × ((List Int) × (List (Int × Int))) × (List (List Int)) × (List Int) × (List Int) × Unit)) := tLx (tV (fun s : (List Int) × D × Int × ((List Int) × (List (Int × Int))) × (List (List Int)) × (List Int) × (List Int) × Unit => s.2.2.2.2.2.2.1)) (fun (a : Int) (s : (List Int) × D × Int × ((List Int) × (List (Int × Int))) × (List (List Int)) × (List Int) × (List Int) × Unit) => (s.1, s.2.1, s.2.2.1, s.2.2.2.1, s.2.2.2.2.1, s.2.2.2.2.2.1, s.2.2.2.2.2.2.1, a, s.2.2.2.2.2.2.2)) (tX (tK (σ := (List Int) × D × Int × ((List Int) × (List (Int × Int))) × (List (List Int)) × (List Int) × (List Int) × Int × Unit) true)) (tIO (fun s : (List Int) × D × Int × ((List Int) × (List (Int × Int))) × (List (List Int)) × (List Int) × (List Int) × Int × Unit => s.2.1) (fun (a : D) (s : (List Int) × D × Int × ((List Int) × (List (Int × Int))) × (List (List Int)) × (List Int) × (List Int) × Int × Unit) => (s.1, a, s.2.2)) F__law_drop (tX (tPr (tK (σ := (List Int) × D × Int × ((List Int) × (List (Int × Int))) × (List (List Int)) × (List Int) × (List Int) × Int × Unit) (3 : Int)) (tK (σ := (List Int) × D × Int × ((List Int) × (List (Int × Int))) × (List (List Int)) × (List Int) × (List Int) × Int × Unit) ())))) (fun s : (List Int) × D × Int × ((List Int) × (List (Int × Int))) × (List (List Int)) × (List Int) × (List Int) × Int × Unit => ((fun s : (List Int) × D × Int × ((List Int) × (List (Int × Int))) × (List (List Int)) × (List Int) × (List Int) × Int × Unit => (s.1, s.2.1, s.2.2.1, s.2.2.2.1, s.2.2.2.2.1, s.2.2.2.2.2.1, s.2.2.2.2.2.2.1, s.2.2.2.2.2.2.2.2)) s)) (fun s : (List Int) × D × Int × ((List Int) × (List (Int × Int))) × (List (List Int)) × (List Int) × (List Int) × Int × Unit => ((fun s : (List Int) × D × Int × ((List Int) × (List (Int × Int))) × (List (List Int)) × (List Int) × (List Int) × Int × Unit => (s.1, s.2.1, s.2.2.1, s.2.2.2.1, s.2.2.2.2.1, s.2.2.2.2.2.1, s.2.2.2.2.2.2.1, s.2.2.2.2.2.2.2.2)) s))
noncomputable def F_law_l1 : (List Int) × D × Int × Unit → Option (Fo Bool (Unit) ((List Int) × D × Unit) ((List Int) × D × Unit)) := (tPost (fun s : (List Int) × D × Int × ((List Int) × (List (Int × Int))) × (List (List Int)) × (List Int) × (List Int) × Unit => (s.1, s.2.1, s.2.2.2.2.2.2.2)) (tSeq (tAsgX (tIO (fun s : (List Int) × D × Int × Unit => s.2.1) (fun (a : D) (s : (List Int) × D × Int × Unit) => (s.1, a, s.2.2)) F__law_land (tX (tPr (tK (σ := (List Int) × D × Int × Unit) (12 : Int)) (tK (σ := (List Int) × D × Int × Unit) ())))) (fun (a : ((List Int) × (List (Int × Int)))) (s : (List Int) × D × Int × Unit) => (s.1, s.2.1, s.2.2.1, a, s.2.2.2)))
    (tSeq (tAsgX (tIO (fun s : (List Int) × D × Int × ((List Int) × (List (Int × Int))) × Unit => s.2.1) (fun (a : D) (s : (List Int) × D × Int × ((List Int) × (List (Int × Int))) × Unit) => (s.1, a, s.2.2)) F__law_plan (tX (tPr (tV (fun s : (List Int) × D × Int × ((List Int) × (List (Int × Int))) × Unit => s.2.2.2.1)) (tK (σ := (List Int) × D × Int × ((List Int) × (List (Int × Int))) × Unit) ())))) (fun (a : (List (List Int))) (s : (List Int) × D × Int × ((List Int) × (List (Int × Int))) × Unit) => (s.1, s.2.1, s.2.2.1, s.2.2.2.1, a, s.2.2.2.2)))
    (tSeq (tPar (tX (tOp1 (fun x => some ((fun _ : Unit => ([] : (List Int))) x)) (tK (σ := (List Int) × D × Int × ((List Int) × (List (Int × Int))) × (List (List Int)) × Unit) ()))) (tX (tBn tRepL (tPr (tOp1 (fun x => some ((fun x : Int × Unit => [x.1]) x)) (tPr (tK (σ := (List Int) × D × Int × ((List Int) × (List (Int × Int))) × (List (List Int)) × Unit) (0 : Int)) (tK (σ := (List Int) × D × Int × ((List Int) × (List (Int × Int))) × (List (List Int)) × Unit) ()))) (tOp1 (fun a : (List Int) => some (a.length : Int)) (tOp1 (fun x => some ((fun x : ((List Int) × (List (Int × Int))) => x.1) x)) (tV (fun s : (List Int) × D × Int × ((List Int) × (List (Int × Int))) × (List (List Int)) × Unit => s.2.2.2.1))))))) (fun (a : (List Int)) (s : (List Int) × D × Int × ((List Int) × (List (Int × Int))) × (List (List Int)) × Unit) => (s.1, s.2.1, s.2.2.1, s.2.2.2.1, s.2.2.2.2.1, a, s.2.2.2.2.2)) (fun (a : (List Int)) (s : (List Int) × D × Int × ((List Int) × (List (Int × Int))) × (List (List Int)) × (List Int) × Unit) => (s.1, s.2.1, s.2.2.1, s.2.2.2.1, s.2.2.2.2.1, s.2.2.2.2.2.1, a, s.2.2.2.2.2.2)))
    (tSeq (tForS (tOp1 tRg (tOp1 (fun a : (List (List Int)) => some (a.length : Int)) (tV (fun s : (List Int) × D × Int × ((List Int) × (List (Int × Int))) × (List (List Int)) × (List Int) × (List Int) × Unit => s.2.2.2.2.1)))) (fun s : (List Int) × D × Int × ((List Int) × (List (Int × Int))) × (List (List Int)) × (List Int) × (List Int) × Unit => s) (fun (a : Int) (s : (List Int) × D × Int × ((List Int) × (List (Int × Int))) × (List (List Int)) × (List Int) × (List Int) × Unit) => (s.1, s.2.1, s.2.2.1, s.2.2.2.1, s.2.2.2.2.1, a, s.2.2.2.2.2)) F_law_l2)
    (tSeq (tIte (tNot (tOp1 F__law_right (tPr (tV (fun s : (List Int) × D × Int × ((List Int) × (List (Int × Int))) × (List (List Int)) × (List Int) × (List Int) × Unit => s.2.2.2.1)) (tPr (tOp1 (fun a : (List Int) => some a) (tV (fun s : (List Int) × D × Int × ((List Int) × (List (Int × Int))) × (List (List Int)) × (List Int) × (List Int) × Unit => s.2.2.2.2.2.2.1))) (tK (σ := (List Int) × D × Int × ((List Int) × (List (Int × Int))) × (List (List Int)) × (List Int) × (List Int) × Unit) ()))))) (tRt (tK (σ := (List Int) × D × Int × ((List Int) × (List (Int × Int))) × (List (List Int)) × (List Int) × (List Int) × Unit) false) (fun _ : (List Int) × D × Int × ((List Int) × (List (Int × Int))) × (List (List Int)) × (List Int) × (List Int) × Unit => ())) (tNx (σ := (List Int) × D × Int × ((List Int) × (List (Int × Int))) × (List (List Int)) × (List Int) × (List Int) × Unit)))
    (tSeq (tSetES (tBnX tIx (fun s => ((tIO (fun s : (List Int) × D × Int × ((List Int) × (List (Int × Int))) × (List (List Int)) × (List Int) × (List Int) × Unit => s.2.1) (fun (a : D) (s : (List Int) × D × Int × ((List Int) × (List (Int × Int))) × (List (List Int)) × (List Int) × (List Int) × Unit) => (s.1, a, s.2.2)) F__law_drop (tX (tPr (tOp1 (fun a : (List Int) => some (a.length : Int)) (tV (fun s : (List Int) × D × Int × ((List Int) × (List (Int × Int))) × (List (List Int)) × (List Int) × (List Int) × Unit => s.2.2.2.2.2.2.1))) (tK (σ := (List Int) × D × Int × ((List Int) × (List (Int × Int))) × (List (List Int)) × (List Int) × (List Int) × Unit) ())))) s).map fun p => (((fun s : (List Int) × D × Int × ((List Int) × (List (Int × Int))) × (List (List Int)) × (List Int) × (List Int) × Unit => s.2.2.2.2.2.2.1) p.2, p.1), p.2))) (tIO (fun s : (List Int) × D × Int × ((List Int) × (List (Int × Int))) × (List (List Int)) × (List Int) × (List Int) × Unit => s.2.1) (fun (a : D) (s : (List Int) × D × Int × ((List Int) × (List (Int × Int))) × (List (List Int)) × (List Int) × (List Int) × Unit) => (s.1, a, s.2.2)) F__law_drop (tX (tPr (tOp1 (fun a : (List Int) => some (a.length : Int)) (tV (fun s : (List Int) × D × Int × ((List Int) × (List (Int × Int))) × (List (List Int)) × (List Int) × (List Int) × Unit => s.2.2.2.2.2.2.1))) (tK (σ := (List Int) × D × Int × ((List Int) × (List (Int × Int))) × (List (List Int)) × (List Int) × (List Int) × Unit) ())))) (fun s : (List Int) × D × Int × ((List Int) × (List (Int × Int))) × (List (List Int)) × (List Int) × (List Int) × Unit => s.2.2.2.2.2.2.1) (fun (a : (List Int)) (s : (List Int) × D × Int × ((List Int) × (List (Int × Int))) × (List (List Int)) × (List Int) × (List Int) × Unit) => (s.1, s.2.1, s.2.2.1, s.2.2.2.1, s.2.2.2.2.1, s.2.2.2.2.2.1, a, s.2.2.2.2.2.2.2)))
    (tIteX (tOrX (tX (tNot (tOp1 F__law_right (tPr (tV (fun s : (List Int) × D × Int × ((List Int) × (List (Int × Int))) × (List (List Int)) × (List Int) × (List Int) × Unit => s.2.2.2.1)) (tPr (tOp1 (fun a : (List Int) => some a) (tV (fun s : (List Int) × D × Int × ((List Int) × (List (Int × Int))) × (List (List Int)) × (List Int) × (List Int) × Unit => s.2.2.2.2.2.2.1))) (tK (σ := (List Int) × D × Int × ((List Int) × (List (Int × Int))) × (List (List Int)) × (List Int) × (List Int) × Unit) ())))))) (fun s => ((fun s => ((fun s => ((tPrX (tX (tV (fun s : (List Int) × D × Int × ((List Int) × (List (Int × Int))) × (List (List Int)) × (List Int) × (List Int) × Unit => s.2.2.2.1))) (tPrX (fun s => (F_law_k1 s).bind fun p => ((fun a : (List Int) => some a) p.1).map fun c => (c, p.2)) (tX (tK (σ := (List Int) × D × Int × ((List Int) × (List (Int × Int))) × (List (List Int)) × (List Int) × (List Int) × Unit) ())))) s).bind fun p => (F__law_right p.1).map fun c => (c, p.2)) s).map fun k => (!k.1, k.2)) s).map fun k => (k.1, (fun s : (List Int) × D × Int × ((List Int) × (List (Int × Int))) × (List (List Int)) × (List Int) × (List Int) × Unit => s) k.2)) (fun s : (List Int) × D × Int × ((List Int) × (List (Int × Int))) × (List (List Int)) × (List Int) × (List Int) × Unit => s)) (tRt (tK (σ := (List Int) × D × Int × ((List Int) × (List (Int × Int))) × (List (List Int)) × (List Int) × (List Int) × Unit) false) (fun _ : (List Int) × D × Int × ((List Int) × (List (Int × Int))) × (List (List Int)) × (List Int) × (List Int) × Unit => ())) (tNx (σ := (List Int) × D × Int × ((List Int) × (List (Int × Int))) × (List (List Int)) × (List Int) × (List Int) × Unit))))))))))
theorem t_law_l1 : TS (Rv (eL eI) 0 0 (Rv eD 2 2 (Rv eI 0 0 (Ra (Ra (Ra (Ra (Ra (Ra (Ra Rn)))))))))) f_law_l3 eB 0 0 Rn (Rv (eL eI) 0 0 (Rv eD 2 2 (Ra (Ra (Ra (Ra (Ra (Ra (Ra (Ra Rn)))))))))) F_law_l1 (Rv (eL eI) 0 0 (Rv eD 2 2 (Ra (Ra (Ra (Ra (Ra (Ra (Ra (Ra Rn)))))))))) := by
  have h := ((ts_post (R2 := (Rv (eL eI) 0 0 (Rv eD 2 2 (Ra (Ra (Ra (Ra (Ra (Ra (Ra (Ra Rn))))))))))) (ts_seq (ts_asgX (tx_io t__law_land (gv g0) ((ta_cons (te_p0 tp_k) ta_nil)).x (gv g0) (pv p0v)) (pv (pv (pv p0a))))
    (ts_seq (ts_asgX (tx_io t__law_plan (gv g0) ((ta_cons (te_v (fv (fv (fv f0)))) ta_nil)).x (gv g0) (pv p0v)) (pv (pv (pv (pv p0a)))))
    (ts_seq (ts_par ((te_lst (e := (eL eI)) (m := (fun _ : Unit => ([] : (List Int)))) (k := 0) ta_nil)).x ((te_repL (te_lst (e := (eL eI)) (m := (fun x : Int × Unit => [x.1])) (k := 1) (ta_cons (te_p0 tp_k) ta_nil)) (te_p1 (tp_c1 o_lenT (tp_ixC (e := (eT eI)) (g := (fun x : ((List Int) × (List (Int × Int))) => x.1)) (tp_v (gv (gv (gv g0))))))))).x (pv (pv (pv (pv (pv (pa p0a)))))) (pv (pv (pv (pv (pv (pa (pv p0a))))))))
    (ts_seq (ts_for (R := (Rv (eL eI) 0 0 (Rv eD 2 2 (Rv eI 0 0 (Rv (eP (eT eI) (eT (eP eI eI))) 0 0 (Rv (eT (eT eI)) 0 0 (Ra (Rv (eL eI) 1 1 (Rv (eL eI) 1 1 (Ra (Ra Rn))))))))))) (ti_r1 (tp_c1 o_lenT (tp_v (gv (gv (gv (gv g0))))))) (wv (wv (wv (wv (wv (wa (wv (wv (wa (wa wn)))))))))) (tg_name (pv (pv (pv (pv (pv p0a)))))) t_law_l2)
    (ts_seq (ts_if (tt_not (tt_val (te_call t__law_right (ta_cons (te_v (fv (fv (fv f0)))) (ta_cons (te_c1p (oc_tupleL (h1 := 1)) (tp_v (gv (gv (gv (gv (gv (ga (gv g0))))))))) ta_nil))))) (ts_ret (te_p0 tp_k) wt) ts_nil)
    (ts_seq (ts_setE st_I (tx_ix (oi_L1 (h1 := 1)) (td_V (gv (gv (gv (gv (gv (ga (gv g0))))))) (tx_io t__law_drop (gv g0) ((ta_cons (te_p0 (tp_c1 o_lenL (tp_v (gv (gv (gv (gv (gv (ga (gv g0)))))))))) ta_nil)).x (gv g0) (pv p0v)) (gv (gv (gv (gv (gv (ga (gv g0))))))))) (gv (gv (gv (gv (gv (ga (gv g0))))))) (tx_io t__law_drop (gv g0) ((ta_cons (te_p0 (tp_c1 o_lenL (tp_v (gv (gv (gv (gv (gv (ga (gv g0)))))))))) ta_nil)).x (gv g0) (pv p0v)) (gv (gv (gv (gv (gv (ga (gv g0))))))) (pv (pv (pv (pv (pv (pa (pv p0v))))))))
    (ts_ifX (ttx_or ((tt_not (tt_val (te_call t__law_right (ta_cons (te_v (fv (fv (fv f0)))) (ta_cons (te_c1p (oc_tupleL (h1 := 1)) (tp_v (gv (gv (gv (gv (gv (ga (gv g0))))))))) ta_nil)))))).x (ttx_wk (R2 := (Rv (eL eI) 0 0 (Rv eD 2 2 (Rv eI 0 0 (Rv (eP (eT eI) (eT (eP eI eI))) 0 0 (Rv (eT (eT eI)) 0 0 (Ra (Rv (eL eI) 1 1 (Rv (eL eI) 0 1 (Ra (Ra Rn))))))))))) (ttx_not (ttx_val (tx_call t__law_right (ta_consX ((te_v (fv (fv (fv f0))))).x (ta_consX (tx_c1 (oc_tupleL (h1 := 1)) (tx_lc (Rw := (Rv (eL eI) 0 0 (Rv eD 2 2 (Rv eI 0 0 (Rv (eP (eT eI) (eT (eP eI eI))) 0 0 (Rv (eT (eT eI)) 0 0 (Ra (Rv (eL eI) 1 1 (Rv (eL eI) 0 0 (Ra (Ra Rn))))))))))) (ti_L (te_v (fv (fv (fv (fv (fv (fa (fv f0))))))))) (wp_c wp_n (rv (rv (rv (rv (rv (ra (rv (rv (ra r0a)))))))))) (tg_name (pv (pv (pv (pv (pv (pa (pv (pv (pa p0a)))))))))) (tt_yes).x (wp_c wp_n (rv (rv (rv (rv (rv (ra (rv (rv (ra r0v)))))))))) (tx_io t__law_drop (gv g0) ((ta_cons (te_p0 tp_k) ta_nil)).x (gv g0) (pv p0v)) (wp_c wp_n (rv (rv (rv (rv (rv (ra (rv (rv (ra r0v)))))))))) (rs_c rs_n (rv (rv (rv (rv (rv (ra (rv (rv (ra r0a)))))))))))) (ta_nil).x))))) (wv (wv (wv (wv (wv (wa (wv (wv (wa (wa wn))))))))))) (wv (wv (wv (wv (wv (wa (wv (wv (wa (wa wn))))))))))) (ts_ret (te_p0 tp_k) wt) ts_nil))))))) (wv (wv (wd (wd (wd (wa (wd (wd (wa (wa wn))))))))))) : TS (Rv (eL eI) 0 0 (Rv eD 2 2 (Rv eI 0 0 (Ra (Ra (Ra (Ra (Ra (Ra (Ra Rn)))))))))) f_law_l3 eB 0 0 Rn (Rv (eL eI) 0 0 (Rv eD 2 2 (Ra (Ra (Ra (Ra (Ra (Ra (Ra (Ra Rn)))))))))) _ (Rv (eL eI) 0 0 (Rv eD 2 2 (Ra (Ra (Ra (Ra (Ra (Ra (Ra (Ra Rn)))))))))))
  exact h
noncomputable def F_law : (List Int) × Unit → Option Bool := tRun (σ' := Unit) none (tSeq (tAsg (tOp1 F__law_spring (tPr (tV (fun s : (List Int) × Unit => s.1)) (tK (σ := (List Int) × Unit) ()))) (fun (a : D) (s : (List Int) × Unit) => (s.1, a, s.2)))
    (tSeq (tForS (tOp1 tRg (tK (σ := (List Int) × D × Unit) (8 : Int))) (fun s : (List Int) × D × Unit => s) (fun (a : Int) (s : (List Int) × D × Unit) => (s.1, s.2.1, a, s.2.2)) F_law_l1)
    (tRt (tK (σ := (List Int) × D × Unit) true) (fun _ : (List Int) × D × Unit => ()))))
theorem t_law : TF D_law (eCons (eL eI) eNil) eB 0 0 F_law := by
  have h := (tf_run (R' := Rn) (m := 1) (vn := none) (wn := (fun _ h => nomatch h)) (in_c (in_a (in_a (in_a (in_a (in_a (in_a (in_a (in_a (in_a in_0)))))))))) (ts_seq (ts_asg (te_call t__law_spring (ta_cons (te_v f0) ta_nil)) (pv p0a))
    (ts_seq (ts_for (R := (Rv (eL eI) 0 0 (Rv eD 2 2 (Ra (Ra (Ra (Ra (Ra (Ra (Ra (Ra Rn))))))))))) (ti_r1 tp_k) (wv (wv (wa (wa (wa (wa (wa (wa (wa (wa wn)))))))))) (tg_name (pv (pv p0a))) t_law_l1)
    (ts_ret (te_p0 tp_k) wt))) : TF D_law (eCons (eL eI) eNil) eB 0 0 _)
  exact h
end Q

namespace Q
open PySem PySem.Spec PyProof.Rows L2 DL TL
abbrev Land := List Int × List (Int × Int)
theorem sp_is_integer (i : Int) : F_is_integer (i, ()) = some true := by simp [F_is_integer]
theorem sp_is_between (a b c : Int) : F_is_between (a, b, c, ()) = some (decide (a ≤ b) && decide (b ≤ c)) := by
  by_cases h : a ≤ b <;> simp [F_is_between, sp_is_integer, h]
theorem sp_is_tuple_of (x : Land) : F_is_tuple_of (2, x, ()) = some true := by simp [F_is_tuple_of]
theorem sp_is_tuple_of2 (x : Int × Int) : F_is_tuple_of_IPII (2, x, ()) = some true := by simp [F_is_tuple_of_IPII]
theorem sp_size_of (x : Land) : F_size_of (x, ()) = some (x.1.length : Int) := by simp [F_size_of]
theorem sp_is_border (n : Int) (p : Int × Int) : F_is_border (n, p, ()) = some (decide (0 ≤ p.1 ∧ p.1 < p.2 ∧ p.2 < n)) := by
  simp [F_is_border, sp_is_tuple_of2, sp_is_between, Int.add_one_le_iff, Int.le_sub_one_iff]
  rw [Bool.eq_iff_iff]
  simp
  omega
theorem tEnum_get {α : Type} {xs : List α} {i : Nat} {x : Int × α} (h : (tEnum xs)[i]? = some x) : ∃ y, xs[i]? = some y ∧ x = ((i : Int), y) := by
  unfold tEnum at h
  rw [List.getElem?_map, List.getElem?_zipIdx] at h
  cases e : xs[i]? with
  | none => rw [e] at h; cases h
  | some y =>
    rw [e] at h
    simp only [Option.map_some, Option.some.injEq] at h
    exact ⟨y, rfl, by rw [← h]; simp⟩
theorem sp_folk_fault {folk : List Int} (h2 : 2 ≤ folk.length) (h12 : folk.length ≤ 12) (hf : ∀ i ∈ folk, 0 ≤ i ∧ i ≤ 1000000) : F_folk_fault (folk, ()) = some none := by
  obtain ⟨s', e, h⟩ := tFor_inv (l := Empty) (ι := Unit) (b := F_folk_fault_l1) (pu := fun (x : Int × Int) (s : List Int × Unit) => (s.1, x.1, x.2, ())) (fun _ s => s = (folk, ())) (xs := tEnum folk) (k := 0) (s := (folk, ())) rfl (fun i x s hx hs => by
    obtain ⟨y, hy, rfl⟩ := tEnum_get hx
    subst hs
    have := hf y (List.mem_of_getElem? hy)
    exact ⟨(folk, ()), .inl (by simp [F_folk_fault_l1, sp_is_between, this.1, this.2]), rfl⟩)
  have a1 : (2 : Int) ≤ folk.length := by omega
  have a2 : (folk.length : Int) ≤ 12 := by omega
  subst h
  simp [F_folk_fault, a1, a2, e]
theorem sp_land_fault {folk : List Int} {B : List (Int × Int)} (h : LOk folk B) : F_land_fault ((folk, B), ()) = some none := by
  obtain ⟨s', e, hs⟩ := tFor_inv (l := Empty) (ι := Unit) (b := F_land_fault_l1) (pu := fun (x : Int × (Int × Int)) (s : Land × Option (List Int) × List (Int × Int) × Unit) => (s.1, s.2.1, s.2.2.1, x.1, x.2, ())) (fun _ s => s = ((folk, B), none, B, ())) (xs := tEnum B) (k := 0) (s := ((folk, B), none, B, ())) rfl (fun i x s hx hs => by
    obtain ⟨p, hp, rfl⟩ := tEnum_get hx
    subst hs
    have hb := h.bord p (List.mem_of_getElem? hp)
    refine ⟨((folk, B), none, B, ()), .inl ?_, rfl⟩
    cases i with
    | zero => simp [F_land_fault_l1, sp_is_border, hb.1, hb.2.1, hb.2.2]
    | succ i =>
      obtain ⟨hi, e⟩ := List.getElem?_eq_some_iff.mp hp
      have hlt : SrtO.lexB B[i] p = true := by
        rw [← e]
        exact (List.pairwise_iff_getElem.mp h.sort) i (i + 1) (by omega) hi (by omega)
      have e0 : ((i + 1 : Nat) : Int) - 1 = (i : Nat) := by omega
      have e1 : (0 : Int) < ((i + 1 : Nat) : Int) := by omega
      have q := tIx_get (xs := B) (k := i) (by omega)
      rw [Int.natCast_add, Int.natCast_one] at e0 e1
      simp [F_land_fault_l1, sp_is_border, hb.1, hb.2.1, hb.2.2, e0, e1, q, hlt])
  subst hs
  simp [F_land_fault, sp_is_tuple_of, sp_folk_fault h.two h.twelve h.many, e]
theorem sp_check_land {folk : List Int} {B : List (Int × Int)} (h : LOk folk B) : F_check_land ((folk, B), ()) = some () := by
  simp [F_check_land, sp_land_fault h]
theorem rgT_rgI (n : Nat) : rgT 0 (n : Int) = rgI n := by
  unfold rgT rgI
  rw [Int.sub_zero, Int.toNat_natCast]
  exact List.map_congr_left fun k _ => Int.zero_add _

end Q

namespace Q
open PySem PySem.Spec PyProof.Rows L2 DL TL
theorem sp__law_near {folk : List Int} {B : List (Int × Int)} (h : LOk folk B) (k : Int) : F__law_near ((folk, B), k, ()) = some (nearL folk.length B k) := by
  have h12 := h.twelve
  have a3 := hd_len (xs := rgI folk.length) (by rw [rgI_len]; omega)
  simp [F__law_near, tRg_nat (show folk.length < 1000000 by omega), rgT_rgI, a3, nearL]
  exact List.filter_congr fun x _ => by unfold adj; exact decide_eq_decide.mpr Iff.rfl

end Q

namespace Q
open PySem PySem.Spec PyProof.Rows L2 DL TL
/-- rows of ints -/
def rowsL (n : Nat) (r : Nat → List Int) : List (List Int) := (List.range n).map r
theorem rowsL_len (n : Nat) (r : Nat → List Int) : (rowsL n r).length = n := by simp [rowsL]
theorem rowsL_get {n : Nat} {r : Nat → List Int} {k : Nat} (h : k < n) : (rowsL n r)[k]? = some (r k) := by
  rw [rowsL, List.getElem?_map, List.getElem?_range h]
  rfl
theorem tApp2_rows {n : Nat} {r : Nat → List Int} {k : Nat} {v : Int} (hk : k < n) (hl : (r k).length < 1000000) : tApp2 (rowsL n r) (k : Nat) v = some (rowsL n fun i => if i = k then r k ++ [v] else r i) := by
  unfold tApp2
  have e1 : ixN (rowsL n r).length (k : Int) = some k := by rw [rowsL_len]; simp [ixN, hk]
  rw [e1, Option.bind_some, rowsL_get hk, Option.bind_some, if_pos (hd_lt hl)]
  congr 1
  refine List.ext_getElem (by simp [rowsL]) fun i h1 h2 => ?_
  simp only [rowsL, List.length_set, List.length_map, List.length_range] at h1
  by_cases e : i = k
  · subst e; simp [rowsL]
  · have : ¬ k = i := fun z => e z.symm
    simp [rowsL, e, this, List.getElem_set]
theorem adds_turn {n : Nat} {B : List (Int × Int)} {p : Int × Int} (hp : 0 ≤ p.1 ∧ p.1 < p.2 ∧ p.2 < n) (hl : B.length < 1000000) : ((tApp2 (rowsL n (rowOf B)) p.1 p.2).bind fun xs => tApp2 xs p.2 p.1) = some (rowsL n (rowOf (B ++ [p]))) := by
  obtain ⟨x, y⟩ := p
  obtain ⟨b1, b2, b3⟩ := hp
  dsimp only at b1 b2 b3 ⊢
  obtain ⟨a, rfl⟩ : ∃ a : Nat, x = a := ⟨x.toNat, by omega⟩
  obtain ⟨c, rfl⟩ : ∃ c : Nat, y = c := ⟨y.toNat, by omega⟩
  have l1 : ∀ k, (rowOf B k).length < 1000000 := fun k => by
    have := rowOf_len B k
    omega
  rw [tApp2_rows (by omega) (l1 a), Option.bind_some, tApp2_rows (by omega) (by
    have : ¬ c = a := by omega
    simp only [this, if_false]
    exact l1 c)]
  congr 2
  funext k
  rw [rowOf_snoc]
  have nac : ¬ c = a := by omega
  by_cases k1 : k = a
  · subst k1
    have : ¬ k = c := by omega
    simp [this, adds]
  · have g1 : ¬ (a : Int) = (k : Int) := by omega
    by_cases k2 : k = c
    · subst k2
      simp [nac, g1, adds]
    · have g2 : ¬ (c : Int) = (k : Int) := by omega
      simp [k1, k2, g1, g2, adds]
theorem sp_rows_of {folk : List Int} {B : List (Int × Int)} (h : LOk folk B) (hB : B.length ≤ 1000) : F_rows_of ((folk, B), ()) = some (rowsL folk.length fun k => nearL folk.length B k) := by
  have a3 := hd_len (xs := folk) (by have := h.twelve; omega)
  have e0 : (folk.map fun _ => ([] : List Int)) = rowsL folk.length (rowOf []) := by
    unfold rowsL
    rw [List.map_const']
    exact (List.eq_replicate_iff.mpr ⟨by simp, fun x hx => by
      obtain ⟨k, _, rfl⟩ := List.mem_map.mp hx
      rfl⟩).symm
  obtain ⟨s', e, hs⟩ := tFor_inv0 (l := Empty) (ι := Unit) (b := F_rows_of_l1) (pu := fun (x : Int × Int) (s : Land × List (List Int) × Unit) => (s.1, s.2.1, x.1, x.2, ())) (fun i s => s = ((folk, B), rowsL folk.length (rowOf (B.take i)), ())) (xs := B) (s := ((folk, B), rowsL folk.length (rowOf []), ())) rfl (fun i p s hp hs => by
    subst hs
    obtain ⟨hi1, hi2⟩ := List.getElem?_eq_some_iff.mp hp
    have et : B.take (i + 1) = B.take (i) ++ [p] := by
      rw [List.take_succ_eq_append_getElem hi1, hi2]
    have q := adds_turn (n := folk.length) (B := B.take (i)) (h.bord p (List.mem_of_getElem? hp)) (by rw [List.length_take]; omega)
    rw [← et] at q
    obtain ⟨r1, q1, q2⟩ := bind_some' q
    exact ⟨_, .inl (by simp [F_rows_of_l1, q1, q2]), rfl⟩)
  rw [List.take_length] at hs
  subst hs
  have e3 := hd_len (xs := rowsL folk.length (rowOf B)) (by rw [rowsL_len]; have := h.twelve; omega)
  have e4 : (rowsL folk.length (rowOf B)).map sortI = rowsL folk.length fun k => nearL folk.length B k := by
    unfold rowsL
    rw [List.map_map]
    exact List.map_congr_left fun k _ => row_near h k
  simp [F_rows_of, a3, e0, e, e3, e4]

end Q

namespace Q
open PySem PySem.Spec PyProof.Rows L2 DL TL
theorem reached_inner {l : Type} {n : Nat} {B : List (Int × Int)} {lot : List Int} {s : Int} {t : Int} (hl : lot.length ≤ 1000) {row F : List Int} (nd : F.Nodup) (sub : ∀ x ∈ F, x ∈ lot) :
    tFor (l := l) (τ := List Int) (ι := Unit) (fun (a : Int) (s : List (List Int) × Int × List Int × List Int × Int × Unit) => (s.1, s.2.1, s.2.2.1, s.2.2.2.1, s.2.2.2.2.1, a, s.2.2.2.2.2)) F_reached_l2 row (rowsL n (fun k => nearL n B k), s, lot, F, t, ()) = some (.nx (rowsL n (fun k => nearL n B k), s, lot, scan lot F row, t, ())) := by
  obtain ⟨s', e, hs⟩ := tFor_inv0 (l := l) (ι := Unit) (τ := List Int) (b := F_reached_l2) (pu := fun (a : Int) (s : List (List Int) × Int × List Int × List Int × Int × Unit) => (s.1, s.2.1, s.2.2.1, s.2.2.2.1, s.2.2.2.2.1, a, s.2.2.2.2.2)) (fun i u => u = (rowsL n (fun k => nearL n B k), s, lot, scan lot F (row.take i), t, ())) (xs := row) (s := (rowsL n (fun k => nearL n B k), s, lot, F, t, ())) (by simp [scan]) (fun i x u hx hs => by
    subst hs
    obtain ⟨hi1, hi2⟩ := List.getElem?_eq_some_iff.mp hx
    have et : scan lot F (row.take (i + 1)) = stepR lot (scan lot F (row.take i)) x := by
      unfold scan
      rw [List.take_succ_eq_append_getElem hi1, List.foldl_append, hi2]
      rfl
    have nG := scan_nodup (lot := lot) (row := row.take i) nd
    have sG : ∀ x ∈ scan lot F (row.take i), x ∈ lot := fun x hx => by
      rcases scan_mem.mp hx with a | a
      · exact sub x a
      · exact a.2
    have lG : (scan lot F (row.take i)).length < 1000000 := by
      have := nodup_le nG sG
      omega
    refine ⟨_, .inl ?_, rfl⟩
    rw [et]
    have q3 := tApp_some (x := x) lG
    by_cases a : x ∈ lot
    · by_cases b : x ∈ scan lot F (row.take i)
      · simp [F_reached_l2, a, b, stepR]
      · simp [F_reached_l2, q3, a, b, stepR]
    · simp [F_reached_l2, a, stepR])
  rw [List.take_length] at hs
  rw [e, hs]
theorem sp_reached {n : Nat} {B : List (Int × Int)} {lot : List Int} (hl : lot.length ≤ 1000) (hr : ∀ i ∈ lot, 0 ≤ i ∧ i < n) {s : Int} (hs : s ∈ lot) : F_reached (rowsL n (fun k => nearL n B k), s, lot, ()) = some (compOf B lot s) := by
  obtain ⟨s', e, F, c, rfl⟩ := tWhile_inv (l := Empty) (ι := Unit) (τ := List Int) (c := F_reached_l1_t) (b := F_reached_l1)
    (fun u => ∃ (F : List Int) (t : Nat), Way B lot s F t ∧ u = (rowsL n (fun k => nearL n B k), s, lot, F, (t : Int), ()))
    (fun u => ∃ F, Clo B lot s F ∧ u = (rowsL n (fun k => nearL n B k), s, lot, F, (F.length : Int), ()))
    (fun u => (1001 - u.2.2.2.2.1).toNat)
    (fun u hu => by
      obtain ⟨F, t, w, rfl⟩ := hu
      by_cases ht : t < F.length
      · refine ⟨true, by simp [F_reached_l1_t, ht], fun q => (by cases q), fun _ => ?_⟩
        obtain ⟨a1, a2⟩ := hr _ (w.sub _ (List.getElem_mem ht))
        obtain ⟨k, hk⟩ : ∃ k : Nat, F[t] = (k : Int) := ⟨F[t].toNat, by omega⟩
        have kn : k < n := by omega
        have q1 := tIx_get ht
        rw [hk] at q1
        have q2 := tIx_some (rowsL_get (r := fun k => nearL n B k) kn)
        have q3 := fun l => reached_inner (l := l) (n := n) (B := B) (s := s) (t := t) hl (row := nearL n B k) w.nd w.sub
        have wt := w.turn ht (scan_pre (lot := lot) (nearL n B k) F) (scan_nodup w.nd) fun x => by
          rw [scan_mem, hk]
          constructor
          · rintro (p | ⟨p, q⟩)
            · exact .inl p
            · exact .inr ⟨(List.mem_filter.mp p).2, q⟩
          · rintro (p | ⟨p, q⟩)
            · exact .inl p
            · exact .inr ⟨List.mem_filter.mpr ⟨mem_rgI.mpr (hr x q), p⟩, q⟩
        have tl : t ≤ 1000 := by
          have := nodup_le w.nd w.sub
          omega
        refine ⟨_, .inl (by simp [F_reached_l1, q1, q2, q3]; rfl), ⟨_, t + 1, wt, by simp⟩, ?_⟩
        simp
        omega
      · have et : t = F.length := by have := w.le; omega
        subst et
        exact ⟨false, by simp [F_reached_l1_t], fun _ => ⟨F, w.done, rfl⟩, fun q => (by cases q)⟩)
    (n := fuel) (s := (rowsL n (fun k => nearL n B k), s, lot, [s], 0, ())) ⟨[s], 0, Way.first hs, rfl⟩ (by rw [fuel_eq]; simp)
  simp [F_reached, e, compOf_eq c]

end Q

namespace Q
open PySem PySem.Spec PyProof.Rows L2 DL TL
theorem sp__law_reached {folk : List Int} {B : List (Int × Int)} (h : LOk folk B) {lot : List Int} (hl : lot.length ≤ 1000) (hr : ∀ i ∈ lot, 0 ≤ i ∧ i < folk.length) {s : Int} (hs : s ∈ lot) :
    F__law_reached ((folk, B), lot, s, ()) = some (compOf B lot s) := by
  obtain ⟨s', e, F, c, rfl⟩ := tWhile_inv (l := Empty) (ι := Unit) (τ := List Int) (c := F__law_reached_l1_t) (b := F__law_reached_l1)
    (fun u => ∃ (F : List Int) (t : Nat), Way B lot s F t ∧ u = ((folk, B), lot, s, F, (t : Int), ()))
    (fun u => ∃ F, Clo B lot s F ∧ u = ((folk, B), lot, s, F, (F.length : Int), ()))
    (fun u => (1001 - u.2.2.2.2.1).toNat)
    (fun u hu => by
      obtain ⟨F, t, w, rfl⟩ := hu
      by_cases ht : t < F.length
      · refine ⟨true, by simp [F__law_reached_l1_t, ht], fun q => (by cases q), fun _ => ?_⟩
        have fl := nodup_le w.nd w.sub
        have q1 := tIx_get ht
        have nl : (nearL folk.length B F[t]).length ≤ 12 := by
          have := List.length_filter_le (adj B F[t]) (rgI folk.length)
          rw [rgI_len] at this
          have := h.twelve
          unfold nearL
          omega
        have q2 := hd_len (xs := nearL folk.length B F[t]) (by omega)
        have q4 := tCat_eq (xs := F) (ys := (nearL folk.length B F[t]).filter fun x => decide (x ∈ lot) && !decide (x ∈ F)) (by
          have := List.length_filter_le (fun x => decide (x ∈ lot) && !decide (x ∈ F)) (nearL folk.length B F[t])
          omega)
        have wt := w.turn ht ⟨_, rfl⟩ (G := F ++ (nearL folk.length B F[t]).filter fun x => decide (x ∈ lot) && !decide (x ∈ F)) (List.nodup_append.mpr ⟨w.nd, (lt_nodup (nearL_sorted _ _ _)).filter _, fun a ha b hb e => by
            have := (List.mem_filter.mp hb).2
            simp only [Bool.and_eq_true, Bool.not_eq_true', decide_eq_false_iff_not] at this
            exact this.2 (e ▸ ha)⟩) fun x => by
          rw [List.mem_append, List.mem_filter]
          simp only [Bool.and_eq_true, Bool.not_eq_true', decide_eq_false_iff_not, decide_eq_true_eq]
          constructor
          · rintro (p | ⟨p, q, _⟩)
            · exact .inl p
            · exact .inr ⟨(List.mem_filter.mp p).2, q⟩
          · rintro (p | ⟨p, q⟩)
            · exact .inl p
            · by_cases c : x ∈ F
              · exact .inl c
              · exact .inr ⟨List.mem_filter.mpr ⟨mem_rgI.mpr (hr x q), p⟩, q, c⟩
        refine ⟨_, .inl (by simp [F__law_reached_l1, q1, sp__law_near h, q2, q4]; rfl), ⟨_, t + 1, wt, by simp⟩, ?_⟩
        simp
        omega
      · have et : t = F.length := by have := w.le; omega
        subst et
        exact ⟨false, by simp [F__law_reached_l1_t], fun _ => ⟨F, w.done, rfl⟩, fun q => (by cases q)⟩)
    (n := fuel) (s := ((folk, B), lot, s, [s], 0, ())) ⟨[s], 0, Way.first hs, rfl⟩ (by rw [fuel_eq]; simp)
  simp [F__law_reached, e, compOf_eq c]

end Q

namespace Q
open PySem PySem.Spec PyProof.Rows L2 DL TL
theorem pcs_nil {B : List (Int × Int)} {k : Nat} : pcs B k [] = [] := by cases k <;> rfl
theorem sp_hangs_ofL {n : Nat} {B : List (Int × Int)} {s : Int} {l : List Int} (hl : (s :: l).length ≤ 1000) (hr : ∀ i ∈ s :: l, 0 ≤ i ∧ i < n) :
    F_hangs_of_LLILI (rowsL n (fun k => nearL n B k), s :: l, ()) = some (decide ((compOf B (s :: l) s).length = (s :: l).length)) := by
  have q1 := sp_reached (B := B) hl hr (s := s) List.mem_cons_self
  simp [F_hangs_of_LLILI, tIx_0, q1]
  omega
theorem comp_whole {B : List (Int × Int)} {lot : List Int} {s : Int} (hs : s ∈ lot) (ha : lot.Pairwise (· < ·)) : compOf B lot s = lot ↔ (compOf B lot s).length = lot.length := by
  constructor
  · intro e; rw [e]
  · intro e
    obtain ⟨F, c⟩ := clo_ex (B := B) hs
    rw [← compOf_eq c] at e ⊢
    rw [(sortI_perm F).length_eq] at e
    refine sortI_eq c.nd ha fun a => ⟨c.sub a, fun ha' => ?_⟩
    by_cases h : a ∈ F
    · exact h
    · have := nodup_le (xs := a :: F) (ys := lot) (List.nodup_cons.mpr ⟨h, c.nd⟩) (fun x hx => by
        rcases List.mem_cons.mp hx with rfl | hx
        · exact ha'
        · exact c.sub x hx)
      rw [List.length_cons] at this
      omega
/-- the places with one integer -/
def cls (row : List Int) (m : Int) : List Int := (rgI row.length).filter fun p => decide (row.getD p.toNat 0 = m)
theorem mem_cls {row : List Int} {m p : Int} : p ∈ cls row m ↔ (0 ≤ p ∧ p < row.length) ∧ row.getD p.toNat 0 = m := by
  unfold cls
  rw [List.mem_filter, mem_rgI, decide_eq_true_eq]
theorem cls_asc (row : List Int) (m : Int) : (cls row m).Pairwise (· < ·) := (rgI_sorted _).filter _
theorem cls_len (row : List Int) (m : Int) : (cls row m).length ≤ row.length := by
  have := List.length_filter_le (fun p : Int => decide (row.getD p.toNat 0 = m)) (rgI row.length)
  rw [rgI_len] at this
  exact this
theorem cls_ne {row : List Int} {m : Int} (h : m ∈ row) : cls row m ≠ [] := by
  obtain ⟨i, hi, e⟩ := List.getElem_of_mem h
  intro z
  have : (i : Int) ∈ cls row m := mem_cls.mpr ⟨⟨by omega, by omega⟩, by
    rw [Int.toNat_natCast, List.getD_eq_getElem?_getD, List.getElem?_eq_getElem hi]
    exact e⟩
  rw [z] at this
  cases this
theorem enum_mem {row : List Int} {x : Int × Int} : x ∈ tEnum row ↔ ∃ i : Nat, row[i]? = some x.2 ∧ x.1 = (i : Int) := by
  constructor
  · intro h
    obtain ⟨i, hi, e⟩ := List.getElem_of_mem h
    obtain ⟨y, h1, h2⟩ := tEnum_get (xs := row) (i := i) (x := x) (by rw [← e]; exact List.getElem?_eq_getElem hi)
    exact ⟨i, by rw [h1, h2], by rw [h2]⟩
  · rintro ⟨i, h1, h2⟩
    unfold tEnum
    refine List.mem_map.mpr ⟨(x.2, i), ?_, ?_⟩
    · rw [List.mem_iff_getElem?]
      exact ⟨i, by rw [List.getElem?_zipIdx, h1]; simp⟩
    · exact Prod.ext h2.symm rfl
theorem enum_fst (row : List Int) : (tEnum row).map Prod.fst = rgI row.length := by
  refine List.ext_getElem? fun i => ?_
  unfold tEnum rgI
  rw [List.getElem?_map, List.getElem?_map, List.getElem?_zipIdx, List.getElem?_map]
  by_cases h : i < row.length
  · rw [List.getElem?_eq_getElem h, List.getElem?_range h]
    simp
  · rw [List.getElem?_eq_none (by omega), List.getElem?_eq_none (by simpa using h)]
    rfl
theorem enum_cls (row : List Int) (m : Int) : ((tEnum row).filter fun x => decide (x.2 = m)).map Prod.fst = cls row m := by
  refine asc_uniq ?_ (cls_asc row m) fun p => ?_
  · have h := rgI_sorted row.length
    rw [← enum_fst] at h
    exact h.sublist (List.filter_sublist.map _)
  · rw [List.mem_map, mem_cls]
    constructor
    · rintro ⟨x, hx, rfl⟩
      obtain ⟨h1, h2⟩ := List.mem_filter.mp hx
      obtain ⟨i, e1, e2⟩ := enum_mem.mp h1
      obtain ⟨hi, e3⟩ := List.getElem?_eq_some_iff.mp e1
      rw [e2, Int.toNat_natCast]
      refine ⟨⟨by omega, by omega⟩, ?_⟩
      rw [List.getD_eq_getElem?_getD, e1]
      simpa using h2
    · rintro ⟨⟨h1, h2⟩, h3⟩
      have hi : p.toNat < row.length := by omega
      refine ⟨(p, m), List.mem_filter.mpr ⟨enum_mem.mpr ⟨p.toNat, ?_, by simp; omega⟩, by simp⟩, rfl⟩
      rw [List.getD_eq_getElem?_getD, List.getElem?_eq_getElem hi] at h3
      rw [List.getElem?_eq_getElem hi]
      exact congrArg some h3
noncomputable def hangP (B : List (Int × Int)) (lot : List Int) : Bool := decide (compOf B lot (lot.headD 0) = lot)
theorem sp_hangP {n : Nat} {B : List (Int × Int)} {lot : List Int} (hne : lot ≠ []) (hl : lot.length ≤ 1000) (ha : lot.Pairwise (· < ·)) (hr : ∀ i ∈ lot, 0 ≤ i ∧ i < n) :
    F_hangs_of_LLILI (rowsL n (fun k => nearL n B k), lot, ()) = some (hangP B lot) := by
  cases lot with
  | nil => exact absurd rfl hne
  | cons s l =>
    rw [sp_hangs_ofL hl hr]
    unfold hangP
    rw [List.headD_cons]
    congr 1
    exact decide_eq_decide.mpr (comp_whole List.mem_cons_self ha).symm
def wardsL (row : List Int) : List (List Int) := (setI row).map (cls row)
noncomputable def planR (B : List (Int × Int)) (row : List Int) : Option (List (List Int)) := if (wardsL row).all (hangP B) = true then some (sortL (wardsL row)) else none
theorem sortI_asc {xs : List Int} (h : xs.Pairwise (· < ·)) : sortI xs = xs := sortI_eq (lt_nodup h) h fun _ => Iff.rfl
theorem tSortL_some {xs : List (List Int)} (h : ∀ x ∈ xs, x ≠ []) : tSortL xs = some (sortL xs) := if_pos (by
  rw [List.all_eq_true]
  intro x hx
  have := h x hx
  cases x with
  | nil => exact absurd rfl this
  | cons _ _ => rfl)
theorem sp_as_plan {W : List (List Int)} (hl : W.length ≤ 1000) (h : ∀ w ∈ W, w ≠ [] ∧ w.Pairwise (· < ·) ∧ w.length ≤ 1000) : F_as_plan (W, ()) = some (sortL W) := by
  have a0 := hd_len (xs := W) (by omega)
  have e1 : W.map sortI = W := by
    conv => rhs; rw [← List.map_id W]
    exact List.map_congr_left fun w hw => sortI_asc (h w hw).2.1
  have e2 := tSortL_some (xs := W) fun w hw => (h w hw).1
  simp [F_as_plan, a0, e1, e2]

end Q

namespace Q
open PySem PySem.Spec PyProof.Rows L2 DL TL
theorem sp__law_pieces {folk : List Int} {B : List (Int × Int)} (h : LOk folk B) {lot : List Int} (hl : lot.length ≤ 1000) (hr : ∀ i ∈ lot, 0 ≤ i ∧ i < folk.length) : F__law_pieces ((folk, B), lot, ()) = some (pcs B lot.length lot) := by
  obtain ⟨s', e, rfl⟩ := tWhile_inv (l := Empty) (ι := Unit) (τ := List (List Int)) (c := F__law_pieces_l1_t) (b := F__law_pieces_l1)
    (fun u => ∃ (fnd : List (List Int)) (left : List Int) (k : Nat), left.length ≤ k ∧ fnd.length + k ≤ 1000 ∧ (∀ i ∈ left, i ∈ lot) ∧ Sep B lot left ∧ fnd ++ pcs B k left = pcs B lot.length lot ∧ u = ((folk, B), lot, fnd, left, ()))
    (fun u => u = ((folk, B), lot, pcs B lot.length lot, [], ()))
    (fun u => u.2.2.2.1.length)
    (fun u hu => by
      obtain ⟨fnd, left, k, h1, h2, h3, hS, h4, rfl⟩ := hu
      cases left with
      | nil =>
        rw [pcs_nil, List.append_nil] at h4
        subst h4
        exact ⟨false, by simp [F__law_pieces_l1_t], fun _ => rfl, fun q => (by cases q)⟩
      | cons s l =>
        refine ⟨true, by simp [F__law_pieces_l1_t], fun q => (by cases q), fun _ => ?_⟩
        obtain ⟨k', rfl⟩ : ∃ k', k = k' + 1 := ⟨k - 1, by simp only [List.length_cons] at h1; omega⟩
        simp only [List.length_cons] at h1
        have q1 := sp__law_reached h hl hr (s := s) (h3 s List.mem_cons_self)
        obtain ⟨F, cF'⟩ := clo_ex (B := B) (lot := lot) (s := s) (h3 s List.mem_cons_self)
        have cF := hS.clo h3 List.mem_cons_self cF'
        have eC : compOf B lot s = compOf B (s :: l) s := by rw [← compOf_eq cF, ← compOf_eq cF']
        rw [eC] at q1
        have sC : s ∈ compOf B (s :: l) s := by rw [← compOf_eq cF, mem_sortI]; exact cF.start
        have cC : Sep B lot ((s :: l).filter fun x => !decide (x ∈ compOf B (s :: l) s)) := by
          have := hS.less cF
          have e : (fun x => !decide (x ∈ F)) = fun x => !decide (x ∈ compOf B (s :: l) s) := by
            funext x
            rw [← compOf_eq cF]
            by_cases c : x ∈ F <;> simp [mem_sortI, c]
          rw [e] at this
          exact this
        have q2 := tApp_some (xs := fnd) (x := compOf B (s :: l) s) (by omega)
        have q3 := hd_len (xs := s :: l) (by simp only [List.length_cons]; omega)
        have fl := filter_less (l := l) sC
        have q0 := tIx_0 (x := s) (xs := l)
        have q5 := tIx_last (xs := fnd) (x := compOf B (s :: l) s)
        refine ⟨((folk, B), lot, fnd ++ [compOf B (s :: l) s], (s :: l).filter fun x => !decide (x ∈ compOf B (s :: l) s), ()), .inl (by simp [-List.filter_cons, -List.length_cons, F__law_pieces_l1, q0, q1, q2, q3, q5]), ⟨_, _, k', by omega, by simp; omega, fun i hi => h3 i (List.mem_filter.mp hi).1, cC, ?_, rfl⟩, ?_⟩
        · rw [List.append_assoc]
          exact h4
        · simp only [List.length_cons]
          omega)
    (n := fuel) (s := ((folk, B), lot, [], lot, ())) ⟨[], lot, lot.length, Nat.le_refl _, by simp; omega, fun _ h => h, Sep.self, by simp, rfl⟩ (by rw [fuel_eq]; simp; omega)
  simp [F__law_pieces, e]

end Q

namespace Q
open PySem PySem.Spec PyProof.Rows L2 DL TL
theorem sp_order {c : Nat} {s : D} (hs : Spr c s) (many : Nat) (hm : many ≤ 60) (hc : c + many < 2 ^ 59) :
    ∃ (s' : D) (F : List Int), Spr (c + many) s' ∧ F.Perm (rgI many) ∧ F__law_order (s, many, ()) = some (F, s') := by
  obtain ⟨u, e, s', L, F, hs', hp, hF, rfl⟩ := tFor_inv0 (l := Empty) (ι := D × Unit) (τ := List Int) (b := F__law_order_l1) (pu := fun (a : Int) (s : D × Int × List Int × List Int × Unit) => (s.1, s.2.1, s.2.2.1, s.2.2.2.1, a, s.2.2.2.2)) (fun k u => ∃ (s' : D) (L F : List Int), Spr (c + k) s' ∧ (F ++ L).Perm (rgI many) ∧ F.length = k ∧ u = (s', (many : Int), L, F, ())) (xs := rgI many) (s := (s, many, rgI many, [], ())) ⟨s, rgI many, [], hs, List.Perm.refl _, rfl, rfl⟩ (fun i x u hx hu => by
    obtain ⟨s', L, F, hs', hp, hF, rfl⟩ := hu
    have hi : i < many := by
      have := (List.getElem?_eq_some_iff.mp hx).1
      rw [rgI_len] at this
      exact this
    have hlen := hp.length_eq
    rw [List.length_append, rgI_len] at hlen
    obtain ⟨r, s2, hr, hs2, e2⟩ := drop_some hs' (by omega) (m := L.length) ⟨by omega, by omega⟩
    obtain ⟨k, rfl⟩ : ∃ k : Nat, r = (k : Int) := ⟨r.toNat, by omega⟩
    have hk : k < L.length := by omega
    have q1 : tPop L (k : Int) = some (L[k], L.eraseIdx k) := by
      have a := hd_len (xs := L) (by omega)
      unfold tPop
      rw [if_pos a]
      simp [ixN, hk]
    have q2 := tApp_some (xs := F) (x := L[k]) (by omega)
    exact ⟨_, .inl (by simp [F__law_order_l1, e2, q1, q2]), s2, _, _, hs2, (erase_perm F L k hk).trans hp, by simp [hF], rfl⟩)
  rw [rgI_len] at hs' hF
  have hlen := hp.length_eq
  rw [List.length_append, rgI_len] at hlen
  have hL : L = [] := List.eq_nil_of_length_eq_zero (by omega)
  subst hL
  rw [List.append_nil] at hp
  refine ⟨s', F, hs', hp, ?_⟩
  simp [F__law_order, tRgN_nat (show many < 1000000 by omega), tRg_nat (show many < 1000000 by omega), rgT_rgI, e]

end Q

namespace Q
open PySem PySem.Spec PyProof.Rows L2 DL TL
/-- borders as they are put together: no key twice -/
structure DOk (many : Int) (m : Nat) (xs : List ((Int × Int) × Bool)) : Prop where
  rng : ∀ p ∈ xs.map (·.1), 0 ≤ p.1 ∧ p.1 < p.2 ∧ p.2 < many
  nd : (xs.map (·.1)).Nodup
  len : xs.length ≤ m
theorem DOk.up {many : Int} {m m' : Nat} {xs : List ((Int × Int) × Bool)} (h : DOk many m xs) (k : m ≤ m') : DOk many m' xs := ⟨h.rng, h.nd, Nat.le_trans h.len k⟩
theorem DOk.nil {many : Int} {m : Nat} : DOk many m [] := ⟨by simp, List.nodup_nil, by simp⟩
theorem DOk.put {many : Int} {m : Nat} {xs : List ((Int × Int) × Bool)} (h : DOk many m xs) {k : Int × Int} (hk : 0 ≤ k.1 ∧ k.1 < k.2 ∧ k.2 < many) (v : Bool) : DOk many (m + 1) (tPut xs k v) := by
  unfold tPut
  by_cases c : (xs.any fun p => decide (p.1 = k)) = true
  · rw [if_pos c]
    have e : (xs.map fun p => if p.1 = k then (p.1, v) else p).map (·.1) = xs.map (·.1) := by
      rw [List.map_map]
      exact List.map_congr_left fun p _ => by
        show (if p.1 = k then (p.1, v) else p).1 = p.1
        split <;> rfl
    exact ⟨by rw [e]; exact h.rng, by rw [e]; exact h.nd, by rw [List.length_map]; have := h.len; omega⟩
  · rw [if_neg c]
    have hn : k ∉ xs.map (·.1) := fun hk' => by
      obtain ⟨p, hp, e⟩ := List.mem_map.mp hk'
      exact c (List.any_eq_true.mpr ⟨p, hp, decide_eq_true e⟩)
    refine ⟨fun p hp => ?_, ?_, by rw [List.length_append]; have := h.len; simp; omega⟩
    · rw [List.map_append, List.mem_append] at hp
      rcases hp with hp | hp
      · exact h.rng p hp
      · have : p = k := by simpa using hp
        rw [this]; exact hk
    · rw [List.map_append]
      exact List.nodup_append.mpr ⟨h.nd, by simp, fun a ha b hb e => hn (by
        have : b = k := by simpa using hb
        rw [← this, ← e]; exact ha)⟩
theorem tPutO_some {xs : List ((Int × Int) × Bool)} {k : Int × Int} {v : Bool} (h : xs.length < 1000000) : tPutO xs k v = some (tPut xs k v) := if_pos (hd_lt h)
theorem leP_lex {p q : Int × Int} (h : leP p q = true) (n : p ≠ q) : SrtO.lexB p q = true := by
  cases c : SrtO.lexB p q with
  | true => rfl
  | false =>
    have : leP q p = true := by unfold leP; rw [c]; rfl
    exact absurd (leP_anti h this) n
theorem pw_and {α : Type} {r s : α → α → Prop} : ∀ {xs : List α}, xs.Pairwise r → xs.Pairwise s → xs.Pairwise fun a b => r a b ∧ s a b
  | [], _, _ => .nil
  | a :: xs, h, k => by
    rw [List.pairwise_cons] at h k ⊢
    exact ⟨fun b hb => ⟨h.1 b hb, k.1 b hb⟩, pw_and h.2 k.2⟩
theorem sortP_bst {ps : List (Int × Int)} (h : ps.Nodup) : BSt (sortP ps) := by
  have h1 := sortP_sorted ps
  have h2 : (sortP ps).Nodup := (sortP_perm ps).nodup_iff.mpr h
  exact (pw_and h1 h2).imp fun {a b} z => leP_lex z.1 z.2
/-- borders led along by an order of the places -/
def ledP (order : List Int) (p : Int × Int) : Int × Int := (min (order.getD p.1.toNat 0) (order.getD p.2.toNat 0), max (order.getD p.1.toNat 0) (order.getD p.2.toNat 0))
theorem perm_get {many : Nat} {F : List Int} (hp : F.Perm (rgI many)) {i : Int} (h0 : 0 ≤ i) (h1 : i < many) : ∃ (h : i.toNat < F.length), F.getD i.toNat 0 = F[i.toNat] ∧ 0 ≤ F[i.toNat] ∧ F[i.toNat] < many ∧ tIx F i = some (F.getD i.toNat 0) := by
  have hl := hp.length_eq
  rw [rgI_len] at hl
  have h : i.toNat < F.length := by omega
  have hm : F[i.toNat] ∈ rgI many := (hp.mem_iff).mp (List.getElem_mem h)
  have hm := mem_rgI.mp hm
  refine ⟨h, by simp [h], hm.1, hm.2, ?_⟩
  have := tIx_get h
  rw [show ((i.toNat : Nat) : Int) = i by omega] at this
  rw [this]
  simp [h]
theorem nodup_inj {α : Type} {xs : List α} (nd : xs.Nodup) {i j : Nat} (hi : i < xs.length) (hj : j < xs.length) (h : xs[i] = xs[j]) : i = j := by
  have pw := List.pairwise_iff_getElem.mp nd
  rcases Nat.lt_trichotomy i j with c | c | c
  · exact absurd h (pw i j hi hj c)
  · exact c
  · exact absurd h.symm (pw j i hj hi c)
theorem rgI_nodup (n : Nat) : (rgI n).Nodup := lt_nodup (rgI_sorted n)
theorem led_inj {many : Nat} {F : List Int} (hp : F.Perm (rgI many)) {p q : Int × Int} (hP : 0 ≤ p.1 ∧ p.1 < p.2 ∧ p.2 < many) (hQ : 0 ≤ q.1 ∧ q.1 < q.2 ∧ q.2 < many) (e : ledP F p = ledP F q) : p = q := by
  have nd : F.Nodup := hp.nodup_iff.mpr (rgI_nodup many)
  obtain ⟨a1, a2, _, _, _⟩ := perm_get hp hP.1 (by omega)
  obtain ⟨b1, b2, _, _, _⟩ := perm_get hp (i := p.2) (by omega) (by omega)
  obtain ⟨c1, c2, _, _, _⟩ := perm_get hp hQ.1 (by omega)
  obtain ⟨d1, d2, _, _, _⟩ := perm_get hp (i := q.2) (by omega) (by omega)
  unfold ledP at e
  rw [a2, b2, c2, d2, Prod.mk.injEq] at e
  have inj : ∀ {i j : Nat} (hi : i < F.length) (hj : j < F.length), F[i] = F[j] → i = j := fun {i j} hi hj h => nodup_inj nd hi hj h
  have cs : (F[p.1.toNat] = F[q.1.toNat] ∧ F[p.2.toNat] = F[q.2.toNat]) ∨ (F[p.1.toNat] = F[q.2.toNat] ∧ F[p.2.toNat] = F[q.1.toNat]) := by omega
  rcases cs with ⟨u, v⟩ | ⟨u, v⟩
  · have := inj a1 c1 u
    have := inj b1 d1 v
    exact Prod.ext (by omega) (by omega)
  · have := inj a1 d1 u
    have := inj b1 c1 v
    omega
theorem nodup_map {α β : Type} {f : α → β} : ∀ {xs : List α}, xs.Nodup → (∀ a ∈ xs, ∀ b ∈ xs, f a = f b → a = b) → (xs.map f).Nodup
  | [], _, _ => List.nodup_nil
  | a :: xs, h, k => by
    rw [List.nodup_cons] at h
    rw [List.map_cons, List.nodup_cons]
    refine ⟨fun z => ?_, nodup_map h.2 fun b hb c hc => k b (List.mem_cons_of_mem _ hb) c (List.mem_cons_of_mem _ hc)⟩
    obtain ⟨b, hb, e⟩ := List.mem_map.mp z
    have := k b (List.mem_cons_of_mem _ hb) a List.mem_cons_self e
    exact h.1 (this ▸ hb)
theorem led_lok {many : Nat} {F folk : List Int} {xs : List ((Int × Int) × Bool)} {m : Nat} (hl : folk.length = many) (h2 : 2 ≤ many) (h12 : many ≤ 12) (hf : ∀ i ∈ folk, 0 ≤ i ∧ i ≤ 1000000) (hp : F.Perm (rgI many)) (h : DOk many m xs) : LOk folk (sortP ((xs.map (·.1)).map (ledP F))) ∧ (sortP ((xs.map (·.1)).map (ledP F))).length ≤ m := by
  refine ⟨⟨by omega, by omega, hf, fun p hp' => ?_, sortP_bst (nodup_map h.nd fun a ha b hb e => led_inj hp (h.rng a ha) (h.rng b hb) e)⟩, ?_⟩
  · have := (sortP_perm _).mem_iff.mp hp'
    obtain ⟨q, hq, rfl⟩ := List.mem_map.mp this
    have hQ := h.rng q hq
    have nd : F.Nodup := hp.nodup_iff.mpr (rgI_nodup many)
    obtain ⟨c1, c2, c3, c4, _⟩ := perm_get hp hQ.1 (by omega)
    obtain ⟨d1, d2, d3, d4, _⟩ := perm_get hp (i := q.2) (by omega) (by omega)
    have ne : F[q.1.toNat] ≠ F[q.2.toNat] := fun z => by
      have := nodup_inj nd _ _ z
      omega
    unfold ledP
    rw [c2, d2, hl]
    dsimp only
    omega
  · rw [(sortP_perm _).length_eq, List.length_map, List.length_map]
    exact h.len
/-- borders to a place k ahead -/
theorem land_l1 {c : Nat} {s : D} (hs : Spr c s) (hc : c < 2 ^ 59) {places many shape bound rarely k : Int} {folk : List Int} {xs : List ((Int × Int) × Bool)} {m : Nat} (hm : many ≤ 12) (h : DOk many m xs) (hm' : m ≤ 1000) (k1 : 1 ≤ k) (k2 : k < many) :
    ∃ s' xs', Spr (c + 1) s' ∧ DOk many (m + 1) xs' ∧ F__law_land_l1 (s, places, many, shape, bound, folk, xs, rarely, k, ()) = some (.nx (s', places, many, shape, bound, folk, xs', rarely, ())) := by
  have hl : xs.length < 1000000 := by have := h.len; omega
  by_cases a : shape < 2
  · exact ⟨s, _, hs.up (by omega), h.put (k := (k - 1, k)) (by dsimp only; omega) true, by simp [F__law_land_l1, a, tPutO_some hl]⟩
  · by_cases b : shape = 2
    · have hmul : tMul 2 k = some (2 * k) := tMul_small (by decide) (by omega)
      by_cases d : 2 * k ≤ many
      · exact ⟨s, _, hs.up (by omega), h.put (k := (k - 1, k)) (by dsimp only; omega) true, by simp [F__law_land_l1, b, hmul, d, tPutO_some hl]⟩
      · exact ⟨s, _, hs.up (by omega), h.put (k := (many - k, k)) (by dsimp only; omega) true, by simp [F__law_land_l1, b, hmul, d, tPutO_some hl]⟩
    · by_cases d : 4 < shape
      · obtain ⟨r, s2, hr, hs2, e2⟩ := drop_some hs hc (m := k) ⟨by omega, by omega⟩
        exact ⟨s2, _, hs2, h.put (k := (r, k)) (by dsimp only; omega) true, by simp [F__law_land_l1, a, b, d, e2, tPutO_some hl]⟩
      · exact ⟨s, xs, hs.up (by omega), h.up (by omega), by simp [F__law_land_l1, a, b, d]⟩
theorem rgT_get {i j : Int} {n : Nat} {x : Int} (h : (rgT i j)[n]? = some x) : x = i + n ∧ i ≤ x ∧ x < j := by
  unfold rgT at h
  rw [List.getElem?_map] at h
  simp only [Option.map_eq_some_iff] at h
  obtain ⟨k, hk, rfl⟩ := h
  obtain ⟨h1, h2⟩ := List.getElem?_eq_some_iff.mp hk
  simp at h1 h2
  omega
theorem rgT_len (i j : Int) : (rgT i j).length = (j - i).toNat := by simp [rgT]
theorem land_l3 {c : Nat} {s : D} (hs : Spr c s) (hc : c < 2 ^ 59) {places many shape bound rarely i j : Int} {folk : List Int} {xs : List ((Int × Int) × Bool)} {m : Nat} (h : DOk many m xs) (hm' : m ≤ 1000) (hr : 1 ≤ rarely ∧ rarely ≤ 100) (k1 : 0 ≤ i) (k2 : i < j) (k3 : j < many) :
    ∃ s' xs', Spr (c + 1) s' ∧ DOk many (m + 1) xs' ∧ F__law_land_l3 (s, places, many, shape, bound, folk, xs, rarely, j, i, ()) = some (.nx (s', places, many, shape, bound, folk, xs', rarely, j, ())) := by
  have hl : xs.length < 1000000 := by have := h.len; omega
  by_cases a : 3 < shape
  · obtain ⟨r, s2, hr, hs2, e2⟩ := drop_some hs hc (m := rarely + 1) ⟨by omega, by omega⟩
    by_cases b : r = 0
    · exact ⟨s2, _, hs2, h.put (k := (i, j)) (by dsimp only; omega) true, by subst b; simp [F__law_land_l3, a, e2, tPutO_some hl]⟩
    · exact ⟨s2, xs, hs2, h.up (by omega), by simp [F__law_land_l3, a, b, e2]⟩
  · exact ⟨s, xs, hs.up (by omega), h.up (by omega), by simp [F__law_land_l3, a]⟩
theorem land_l2 {c : Nat} {s : D} (hs : Spr c s) (hc : c < 2 ^ 58) {places many shape bound rarely j : Int} {folk : List Int} {xs : List ((Int × Int) × Bool)} {m : Nat} (hm : many ≤ 12) (h : DOk many m xs) (hm' : m ≤ 800) (hr : 1 ≤ rarely ∧ rarely ≤ 100) (k1 : 0 ≤ j) (k2 : j < many) :
    ∃ s' xs', Spr (c + 12) s' ∧ DOk many (m + 12) xs' ∧ F__law_land_l2 (s, places, many, shape, bound, folk, xs, rarely, j, ()) = some (.nx (s', places, many, shape, bound, folk, xs', rarely, ())) := by
  obtain ⟨u, e, s', xs', h1, h2, rfl⟩ := tFor_inv0 (l := D × Int × Int × Int × Int × (List Int) × (List ((Int × Int) × Bool)) × Int × Unit) (ι := D × Unit) (τ := Land) (b := F__law_land_l3) (pu := fun (a : Int) (s : D × Int × Int × Int × Int × (List Int) × (List ((Int × Int) × Bool)) × Int × Int × Unit) => (s.1, s.2.1, s.2.2.1, s.2.2.2.1, s.2.2.2.2.1, s.2.2.2.2.2.1, s.2.2.2.2.2.2.1, s.2.2.2.2.2.2.2.1, s.2.2.2.2.2.2.2.2.1, a, s.2.2.2.2.2.2.2.2.2))
    (fun k u => ∃ s' xs', Spr (c + k) s' ∧ DOk many (m + k) xs' ∧ u = (s', places, many, shape, bound, folk, xs', rarely, j, ())) (xs := rgT 0 j) (s := (s, places, many, shape, bound, folk, xs, rarely, j, ())) ⟨s, xs, hs, h, rfl⟩ (fun i x u hx hu => by
    obtain ⟨s', xs', h1, h2, rfl⟩ := hu
    obtain ⟨hx1, hx2, hx3⟩ := rgT_get hx
    obtain ⟨s2, xs2, g1, g2, g3⟩ := land_l3 (i := x) (j := j) (places := places) (shape := shape) (bound := bound) (folk := folk) h1 (by omega) h2 (by omega) hr (by omega) (by omega) (by omega)
    exact ⟨_, .inl g3, s2, xs2, g1, g2, rfl⟩)
  rw [rgT_len] at h1 h2
  exact ⟨s', xs', h1.up (by omega), h2.up (by omega), by simp [F__law_land_l2, tRg_int (show -1000 ≤ j by omega) (show j < 1000000 by omega), e]⟩
theorem rgI_lt {n i : Nat} {x : Int} (h : (rgI n)[i]? = some x) : i < n ∧ x = i := by
  have h1 := (List.getElem?_eq_some_iff.mp h).1
  rw [rgI_len] at h1
  refine ⟨h1, ?_⟩
  unfold rgI at h
  rw [List.getElem?_map, List.getElem?_range h1] at h
  simpa using h.symm
theorem land_k1 {c : Nat} {s : D} (hs : Spr c s) (hc : c < 2 ^ 58) {places shape bound : Int} {many : Nat} (hm : many ≤ 60) (hb : 1 ≤ bound ∧ bound ≤ 1000001) :
    ∃ folk s', Spr (c + many) s' ∧ folk.length = many ∧ (∀ i ∈ folk, 0 ≤ i ∧ i ≤ 1000000) ∧ F__law_land_k1 (s, places, many, shape, bound, ()) = some (folk, (s', places, (many : Int), shape, bound, ())) := by
  have a := hd_len (xs := rgI many) (by rw [rgI_len]; omega)
  obtain ⟨zs, u, e, s', h1, h2, h3, rfl⟩ : ∃ zs u, F__law_land_k1 (s, places, many, shape, bound, ()) = some (zs, u) ∧ ∃ s', Spr (c + (rgI many).length) s' ∧ zs.length = (rgI many).length ∧ (∀ i ∈ zs, 0 ≤ i ∧ i ≤ 1000000) ∧ u = (s', places, (many : Int), shape, bound, ()) := by
    unfold F__law_land_k1
    refine tLx_inv (fun k ys u => ∃ s', Spr (c + k) s' ∧ ys.length = k ∧ (∀ i ∈ ys, 0 ≤ i ∧ i ≤ 1000000) ∧ u = (s', places, (many : Int), shape, bound, ())) (by simp [tRg_nat (show many < 1000000 by omega), rgT_rgI]) a ⟨s, hs, rfl, by simp, rfl⟩ (fun i x ys u hx hu => ?_)
    obtain ⟨s', h1, h2, h3, rfl⟩ := hu
    have hi := (rgI_lt hx).1
    obtain ⟨r, s2, hr, hs2, e2⟩ := drop_some h1 (by omega) (m := bound) ⟨by omega, by omega⟩
    refine ⟨true, _, rfl, fun q => (by cases q), fun _ => ⟨r, _, by simp [e2]; rfl, s2, hs2, by simp [h2], fun i hi => ?_, rfl⟩⟩
    rcases List.mem_append.mp hi with z | z
    · exact h3 i z
    · have : i = r := by simpa using z
      omega
  rw [rgI_len] at h1 h2
  exact ⟨zs, s', h1, h2, h3, e⟩
theorem bound_at {r : Int} (h : 0 ≤ r ∧ r < 4) : ∃ b : Int, tIx [1, 2, 9, 1000001] r = some b ∧ 1 ≤ b ∧ b ≤ 1000001 := by
  have : r = 0 ∨ r = 1 ∨ r = 2 ∨ r = 3 := by omega
  rcases this with rfl | rfl | rfl | rfl
  · exact ⟨1, rfl, by omega, by omega⟩
  · exact ⟨2, rfl, by omega, by omega⟩
  · exact ⟨9, rfl, by omega, by omega⟩
  · exact ⟨1000001, rfl, by omega, by omega⟩
/-- a drawn land -/
theorem sp_land {c : Nat} {s : D} (hs : Spr c s) (hc : c < 2 ^ 57) {places : Int} (hp : 2 ≤ places ∧ places ≤ 12) :
    ∃ (folk : List Int) (B : List (Int × Int)) (s' : D), Spr (c + 1000) s' ∧ LOk folk B ∧ B.length ≤ 1000 ∧ (folk.length : Int) ≤ places ∧ F__law_land (s, places, ()) = some ((folk, B), s') := by
  obtain ⟨r1, s1, hr1, hs1, e1⟩ := drop_some hs (by omega) (m := places - 1) ⟨by omega, by omega⟩
  obtain ⟨many, hmany⟩ : ∃ n : Nat, 2 + r1 = (n : Int) := ⟨(2 + r1).toNat, by omega⟩
  obtain ⟨shape, s2, hr2, hs2, e2⟩ := drop_some hs1 (by omega) (m := 10) ⟨by omega, by omega⟩
  obtain ⟨r3, s3, hr3, hs3, e3⟩ := drop_some hs2 (by omega) (m := 4) ⟨by omega, by omega⟩
  obtain ⟨bound, e4, hb⟩ := bound_at hr3
  obtain ⟨folk, s4, hs4, hf1, hf2, e5⟩ := land_k1 (places := places) (shape := shape) hs3 (by omega) (many := many) (by omega) hb
  obtain ⟨r5, s5, hr5, hs5, e6⟩ := drop_some hs4 (by omega) (m := 6) ⟨by omega, by omega⟩
  -- the first loop
  obtain ⟨u, e7, s6, xs, hs6, hx6, rfl⟩ := tFor_inv0 (l := Empty) (ι := D × Unit) (τ := Land) (b := F__law_land_l1) (pu := fun (a : Int) (s : D × Int × Int × Int × Int × (List Int) × (List ((Int × Int) × Bool)) × Int × Unit) => (s.1, s.2.1, s.2.2.1, s.2.2.2.1, s.2.2.2.2.1, s.2.2.2.2.2.1, s.2.2.2.2.2.2.1, s.2.2.2.2.2.2.2.1, a, s.2.2.2.2.2.2.2.2))
    (fun k u => ∃ s' xs, Spr (c + 1 + 1 + 1 + many + 1 + k) s' ∧ DOk many k xs ∧ u = (s', places, (many : Int), shape, bound, folk, xs, 1 + r5, ())) (xs := rgT 1 many) (s := (s5, places, (many : Int), shape, bound, folk, [], 1 + r5, ())) ⟨s5, [], hs5, DOk.nil, rfl⟩ (fun i x u hx hu => by
      obtain ⟨s', xs, h1, h2, rfl⟩ := hu
      obtain ⟨g1, g2, g3⟩ := rgT_get hx
      obtain ⟨s2, xs2, k1, k2, k3⟩ := land_l1 (places := places) (shape := shape) (bound := bound) (rarely := 1 + r5) (folk := folk) h1 (by omega) (by omega) h2 (by omega) g2 g3
      exact ⟨_, .inl k3, s2, xs2, k1, k2, rfl⟩)
  rw [rgT_len] at hs6 hx6
  -- a ring
  obtain ⟨ys, hy, ey⟩ : ∃ ys, DOk many 13 ys ∧ (if shape = 1 ∧ 2 < (many : Int) then tPut xs (0, (many : Int) - 1) true else xs) = ys := by
    refine ⟨_, ?_, rfl⟩
    split
    · exact (hx6.put (k := (0, (many : Int) - 1)) (by dsimp only; omega) true).up (by omega)
    · exact hx6.up (by omega)
  have hlx : xs.length < 1000000 := by have := hx6.len; omega
  -- the second loop
  obtain ⟨u, e8, s7, zs, hs7, hz7, rfl⟩ := tFor_inv0 (l := Empty) (ι := D × Unit) (τ := Land) (b := F__law_land_l2) (pu := fun (a : Int) (s : D × Int × Int × Int × Int × (List Int) × (List ((Int × Int) × Bool)) × Int × Unit) => (s.1, s.2.1, s.2.2.1, s.2.2.2.1, s.2.2.2.2.1, s.2.2.2.2.2.1, s.2.2.2.2.2.2.1, s.2.2.2.2.2.2.2.1, a, s.2.2.2.2.2.2.2.2))
    (fun k u => ∃ s' xs, Spr (c + 28 + 12 * k) s' ∧ DOk many (13 + 12 * k) xs ∧ u = (s', places, (many : Int), shape, bound, folk, xs, 1 + r5, ())) (xs := rgI many) (s := (s6, places, (many : Int), shape, bound, folk, ys, 1 + r5, ())) ⟨s6, ys, hs6.up (by omega), hy.up (by omega), rfl⟩ (fun i x u hx hu => by
      obtain ⟨s', xs, h1, h2, rfl⟩ := hu
      obtain ⟨g1, g2⟩ := rgI_lt hx
      obtain ⟨s2, xs2, k1, k2, k3⟩ := land_l2 (places := places) (shape := shape) (bound := bound) (rarely := 1 + r5) (folk := folk) (j := x) h1 (by omega) (many := many) (by omega) h2 (by omega) (by omega) (by omega) (by omega)
      exact ⟨_, .inl k3, s2, xs2, k1.up (by omega), k2.up (by omega), rfl⟩)
  rw [rgI_len] at hs7 hz7
  obtain ⟨s8, F, hs8, hF, e9⟩ := sp_order hs7 many (by omega) (by omega)
  obtain ⟨hL, hB⟩ := led_lok hf1 (by omega) (by omega) hf2 hF hz7
  refine ⟨folk, _, s8, hs8.up (by omega), hL, by omega, by omega, ?_⟩
  have a1 := hd_len (xs := zs.map (·.1)) (by have := hz7.len; rw [List.length_map]; omega)
  have e10 : mapT (fun x : Int × Int => ((tIx F x.1).bind fun a => ((tIx F x.2).bind fun a => some (a, ())).bind fun b => some (a, b)).bind fun x => some (min x.1 x.2.1, max x.1 x.2.1)) (zs.map (·.1)) = some ((zs.map (·.1)).map (ledP F)) := mapT_eq fun x hx => by
    have h := hz7.rng x hx
    obtain ⟨_, _, _, _, g1⟩ := perm_get hF h.1 (by omega)
    obtain ⟨_, _, _, _, g2⟩ := perm_get hF (i := x.2) (by omega) (by omega)
    rw [g1, g2]
    rfl
  have big : tRg2 1 (many : Int) = some (rgT 1 many) := tRg2_int (by omega) (by omega) (by omega) (by omega)
  have rg : tRg (many : Int) = some (rgI many) := by rw [tRg_nat (by omega), rgT_rgI]
  by_cases d1 : shape = 1
  · subst d1
    by_cases d2 : 2 < (many : Int)
    · have ey' : tPut xs (0, (many : Int) - 1) true = ys := by rw [← ey, if_pos ⟨rfl, d2⟩]
      simp [F__law_land, e1, hmany, e2, e3, e4, e5, e6, big, e7, d2, tPutO_some hlx, ey', rg, e8, e9, a1, e10]
    · have ey' : xs = ys := by rw [← ey, if_neg (fun z => d2 z.2)]
      simp [F__law_land, e1, hmany, e2, e3, e4, e5, e6, big, e7, d2, ey', rg, e8, e9, a1, e10]
  · have ey' : xs = ys := by rw [← ey, if_neg (fun z => d1 z.1)]
    simp [F__law_land, e1, hmany, e2, e3, e4, e5, e6, big, e7, d1, ey', rg, e8, e9, a1, e10]

end Q

namespace Q
open PySem PySem.Spec PyProof.Rows L2 DL TL
theorem good_I {m : Nat} (i : Int) : Good m (eI i) := .int i
theorem good_B {m : Nat} (i : Bool) : Good m (eB i) := .bool i
theorem good_L {α : Type} {e : α → D} {m : Nat} {xs : List α} (h : ∀ x ∈ xs, Good m (e x)) (hl : xs.length ≤ 1000) : Good (m + 1) (eL e xs) := .list (fun d hd => by
  obtain ⟨x, hx, rfl⟩ := List.mem_map.mp hd
  exact h x hx) (by rw [List.length_map]; exact hl)
theorem good_T {α : Type} {e : α → D} {m : Nat} {xs : List α} (h : ∀ x ∈ xs, Good m (e x)) (hl : xs.length ≤ 1000) : Good (m + 1) (eT e xs) := .tuple (fun d hd => by
  obtain ⟨x, hx, rfl⟩ := List.mem_map.mp hd
  exact h x hx) (by rw [List.length_map]; exact hl)
theorem good_P {α β : Type} {e : α → D} {f : β → D} {m : Nat} {x : α × β} (h : Good m (e x.1)) (k : Good m (f x.2)) : Good (m + 1) (eP e f x) := .tuple (fun d hd => by
  simp only [List.mem_cons, List.not_mem_nil, or_false] at hd
  rcases hd with rfl | rfl
  · exact h
  · exact k) (by simp)
theorem comp_len {B : List (Int × Int)} {lot : List Int} {s : Int} (hs : s ∈ lot) : (compOf B lot s).length ≤ lot.length := by
  obtain ⟨F, c⟩ := clo_ex (B := B) hs
  rw [← compOf_eq c, (sortI_perm F).length_eq]
  exact nodup_le c.nd c.sub
theorem pcs_len {B : List (Int × Int)} : ∀ (k : Nat) (l : List Int), (pcs B k l).length ≤ k
  | 0, _ => Nat.zero_le _
  | k + 1, [] => Nat.zero_le _
  | k + 1, s :: l => by
    show (_ :: _).length ≤ _
    rw [List.length_cons]
    have := pcs_len (B := B) k ((s :: l).filter fun x => !decide (x ∈ compOf B (s :: l) s))
    omega
theorem pcs_each {B : List (Int × Int)} : ∀ (k : Nat) (l : List Int), ∀ p ∈ pcs B k l, p.length ≤ l.length
  | 0, _, p, hp => by cases hp
  | k + 1, [], p, hp => by cases hp
  | k + 1, s :: l, p, hp => by
    rcases List.mem_cons.mp hp with rfl | hp
    · exact comp_len List.mem_cons_self
    · have := pcs_each k _ p hp
      have h2 := List.length_filter_le (fun x => !decide (x ∈ compOf B (s :: l) s)) (s :: l)
      omega
theorem good_pcs {B : List (Int × Int)} {k : Nat} {l : List Int} (hk : k ≤ 1000) (hl : l.length ≤ 1000) : Good 2 (eT (eT eI) (pcs B k l)) := by
  refine good_T (fun p hp => good_T (fun i _ => good_I i) ?_) ?_
  · have := pcs_each k l p hp; omega
  · have := pcs_len (B := B) k l; omega
theorem good_two {α : Type} {e : α → D} {m : Nat} {a : α} (h : Good m (e a)) : Good (m + 1) (eL e [a, a]) := good_L (fun x hx => by
  simp only [List.mem_cons, List.not_mem_nil, or_false, or_self] at hx
  rw [hx]; exact h) (by simp)
theorem Good.up {m k : Nat} {d : D} (h : Good m d) (hk : m ≤ k) : Good k d := by
  induction h generalizing k with
  | int i => exact .int i
  | bool b => exact .bool b
  | non => exact .non
  | list _ hl ih => 
    obtain ⟨k, rfl⟩ : ∃ j, k = j + 1 := ⟨k - 1, by omega⟩
    exact .list (fun d hd => ih d hd (by omega)) hl
  | tuple _ hl ih => 
    obtain ⟨k, rfl⟩ : ∃ j, k = j + 1 := ⟨k - 1, by omega⟩
    exact .tuple (fun d hd => ih d hd (by omega)) hl
theorem alike_two {α : Type} {e : α → D} {m : Nat} {a : α} (h : Good m (e a)) (hm : m ≤ 3) : F__law_alike (eL e) ([a, a], [a, a], ()) = some true := alike_some _ ((good_two h).up (by omega))
theorem nearL_len (n : Nat) (B : List (Int × Int)) (k : Int) : (nearL n B k).length ≤ n := by
  have := List.length_filter_le (adj B k) (rgI n)
  rw [rgI_len] at this
  exact this
theorem Lot.tail {n : Int} {a b : Int} {l : List Int} (h : Lot n (a :: b :: l)) : Lot n (b :: l) :=
  ⟨by simp, fun i hi => h.rng i (List.mem_cons_of_mem _ hi), (List.pairwise_cons.mp h.sort).2, by have := h.short; simp only [List.length_cons] at this ⊢; omega⟩
theorem Lot.all {n : Nat} (h : 1 ≤ n) (h2 : n ≤ 1000) : Lot n (rgI n) := ⟨fun z => by
  have := rgI_len n
  rw [z] at this
  simp at this
  omega, fun i hi => by have := mem_rgI.mp hi; omega, rgI_sorted n, by rw [rgI_len]; exact h2⟩
theorem Lot.but {n : Nat} (h : 2 ≤ n) (h2 : n ≤ 1000) (o : Int) : Lot n ((rgI n).filter fun k => !decide (k = o)) := ⟨fun z => by
  have h0 : (0 : Int) ∈ rgI n := mem_rgI.mpr (by omega)
  have h1 : (1 : Int) ∈ rgI n := mem_rgI.mpr (by omega)
  have a := List.filter_eq_nil_iff.mp z 0 h0
  have b := List.filter_eq_nil_iff.mp z 1 h1
  simp at a b
  omega, fun i hi => by have := mem_rgI.mp (List.mem_filter.mp hi).1; omega, (rgI_sorted n).filter _, by
  have := List.length_filter_le (fun k => !decide (k = o)) (rgI n)
  rw [rgI_len] at this
  omega⟩

end Q

namespace Q
open PySem PySem.Spec PyProof.Rows L2 DL TL
theorem setI_len (row : List Int) : (setI row).length ≤ row.length := by
  rw [(setI_perm row).length_eq]
  exact nodup_le nubI_nodup fun x hx => mem_nubI.mp hx
theorem wards_ok {row : List Int} (hl : row.length ≤ 12) : (wardsL row).length ≤ 12 ∧ ∀ w ∈ wardsL row, w ≠ [] ∧ w.Pairwise (· < ·) ∧ w.length ≤ 12 ∧ ∀ i ∈ w, 0 ≤ i ∧ i < row.length := by
  refine ⟨by unfold wardsL; rw [List.length_map]; have := setI_len row; omega, fun w hw => ?_⟩
  obtain ⟨m, hm, rfl⟩ := List.mem_map.mp hw
  refine ⟨cls_ne (mem_setI.mp hm), cls_asc row m, ?_, fun i hi => (mem_cls.mp hi).1⟩
  have := cls_len row m
  omega
theorem sp_plan_of {folk row : List Int} {B : List (Int × Int)} (h : LOk folk B) (hB : B.length ≤ 1000) (hl : row.length = folk.length) : F_plan_of ((folk, B), row, ()) = some (planR B row) := by
  have h1 := sp_check_land h
  have h2 := sp_rows_of h hB
  have h12 := h.twelve
  have e0 : ∀ x y, F_is_tuple_of_ITI (x, y, ()) = some (decide ((y.length : Int) = x)) := fun x y => by simp [F_is_tuple_of_ITI]
  have a1 := hd_len (xs := row) (by omega)
  have a2 := hd_len (xs := setI row) (by have := setI_len row; omega)
  have a3 := hd_len (xs := tEnum row) (by unfold tEnum; simp; omega)
  have e1 : tSetI row = some (setI row) := if_pos (by omega)
  obtain ⟨w1, w2⟩ := wards_ok (row := row) (by omega)
  have a4 := hd_len (xs := wardsL row) (by omega)
  have e2 : mapT (fun x => if Sh (tEnum row) then some (List.map Prod.fst (List.filter (fun x_1 => decide (x_1.2 = x)) (tEnum row))) else none) (setI row) = some (wardsL row) := mapT_eq fun x hx => by rw [if_pos a3, enum_cls]
  have e3 : mapT (fun x => ((F_rows_of ((folk, B), ())).bind fun a => some (a, x, ())).bind F_hangs_of_LLILI) (wardsL row) = some ((wardsL row).map (hangP B)) := mapT_eq fun x hx => by
    obtain ⟨q1, q2, q3, q4⟩ := w2 x hx
    rw [h2, Option.bind_some, Option.bind_some]
    exact sp_hangP q1 (by omega) q2 (by rw [← hl]; exact q4)
  have e4 := sp_as_plan (W := wardsL row) (by omega) fun w hw => by
    obtain ⟨q1, q2, q3, q4⟩ := w2 w hw
    exact ⟨q1, q2, by omega⟩
  have e5 : ((wardsL row).map (hangP B)).all id = (wardsL row).all (hangP B) := by rw [List.all_map]; rfl
  have e6 : (row.map fun _ => true).all id = true := by simp
  unfold planR
  cases hc : (wardsL row).all (hangP B) with
  | true => simp [F_plan_of, h1, e0, sp_size_of, hl, sp_is_integer, a1, a2, a4, e1, e2, e3, e4, e5, e6, hc, -List.all_map]
  | false => simp [F_plan_of, h1, e0, sp_size_of, hl, sp_is_integer, a1, a2, a4, e1, e2, e3, e4, e5, e6, hc, -List.all_map]
theorem sp_told {folk row : List Int} {B : List (Int × Int)} (h : LOk folk B) (hB : B.length ≤ 1000) (hl : row.length = folk.length) (b : Bool) : F__law_told ((folk, B), row, b, ()) = some (planR B row) := by
  have e := sp_plan_of h hB hl
  cases b <;> cases hp : planR B row <;> simp [F__law_told, e, hp]

end Q

namespace Q
open PySem PySem.Spec PyProof.Rows L2 DL TL
theorem rgI_lt5 {n i : Nat} {x : Int} (h : (rgI n)[i]? = some x) : i < n ∧ x = i := by
  unfold rgI at h
  rw [List.getElem?_map] at h
  by_cases hi : i < n
  · rw [List.getElem?_range hi] at h
    cases h
    exact ⟨hi, rfl⟩
  · rw [List.getElem?_eq_none (by simpa using hi)] at h
    cases h
theorem rgI_succ (k : Nat) : rgI (k + 1) = rgI k ++ [(k : Int)] := by
  unfold rgI
  rw [List.range_succ, List.map_append]
  rfl
def clsK (row : List Int) (m : Int) (k : Nat) : List Int := (rgI k).filter fun p => decide (row.getD p.toNat 0 = m)
theorem clsK_succ (row : List Int) (m : Int) (k : Nat) : clsK row m (k + 1) = clsK row m k ++ (if row.getD k 0 = m then [(k : Int)] else []) := by
  unfold clsK
  rw [rgI_succ, List.filter_append]
  by_cases h : row.getD k 0 = m <;> simp [List.filter_cons]
theorem clsK_len (row : List Int) (m : Int) (k : Nat) : (clsK row m k).length ≤ k := by
  have := List.length_filter_le (fun p : Int => decide (row.getD p.toNat 0 = m)) (rgI k)
  rw [rgI_len] at this
  exact this
structure WK (row : List Int) (k : Nat) (W : List (Int × List Int)) : Prop where
  nd : (W.map (·.1)).Nodup
  mem : ∀ m, m ∈ W.map (·.1) ↔ m ∈ row.take k
  val : ∀ x ∈ W, x.2 = clsK row x.1 k
theorem look_of {W : List (Int × List Int)} (nd : (W.map (·.1)).Nodup) {x : Int × List Int} (hx : x ∈ W) : tLook W x.1 = some x.2 := by
  induction W with
  | nil => cases hx
  | cons y W ih =>
    rw [List.map_cons, List.nodup_cons] at nd
    unfold tLook
    rw [List.find?_cons]
    by_cases e : y.1 = x.1
    · rcases List.mem_cons.mp hx with rfl | hx
      · simp
      · exact absurd (List.mem_map.mpr ⟨x, hx, e.symm⟩) nd.1
    · rcases List.mem_cons.mp hx with rfl | hx
      · exact absurd rfl e
      · rw [decide_eq_false e]
        exact ih nd.2 hx
theorem look_no {W : List (Int × List Int)} {m : Int} (h : m ∉ W.map (·.1)) : tLook W m = none := by
  unfold tLook
  rw [List.find?_eq_none.mpr fun x hx => by
    simp only [decide_eq_true_eq]
    intro e
    exact h (List.mem_map.mpr ⟨x, hx, e⟩)]
  rfl
theorem clsK_none {row : List Int} {m : Int} {k : Nat} (hk : k ≤ row.length) (h : m ∉ row.take k) : clsK row m k = [] := by
  unfold clsK
  rw [List.filter_eq_nil_iff]
  intro p hp e
  obtain ⟨h1, h2⟩ := mem_rgI.mp hp
  have hi : p.toNat < row.length := by omega
  rw [decide_eq_true_eq, List.getD_eq_getElem?_getD, List.getElem?_eq_getElem hi] at e
  refine h ?_
  rw [List.mem_take_iff_getElem]
  exact ⟨p.toNat, by omega, e⟩
theorem WK.len {row : List Int} {k : Nat} {W : List (Int × List Int)} (h : WK row k W) : W.length ≤ k := by
  have := nodup_le h.nd fun m hm => (h.mem m).mp hm
  rw [List.length_map, List.length_take] at this
  omega
theorem WK.step {row : List Int} {k : Nat} {W : List (Int × List Int)} (h : WK row k W) (hk : k < row.length) : WK row (k + 1) (tPut W row[k] ((tLook W row[k]).getD [] ++ [(k : Int)])) := by
  have gk : row.getD k 0 = row[k] := by rw [List.getD_eq_getElem?_getD, List.getElem?_eq_getElem hk]; rfl
  have tk : ∀ m, m ∈ row.take (k + 1) ↔ m ∈ row.take k ∨ m = row[k] := fun m => by
    rw [List.take_succ, List.getElem?_eq_getElem hk, List.mem_append]
    exact or_congr Iff.rfl (by simp)
  by_cases hm : row[k] ∈ W.map (·.1)
  · have hany : (W.any fun p => decide (p.1 = row[k])) = true := by
      obtain ⟨x, hx, e⟩ := List.mem_map.mp hm
      exact List.any_eq_true.mpr ⟨x, hx, by simpa using e⟩
    unfold tPut
    rw [if_pos hany]
    have ef : (W.map fun p => if p.1 = row[k] then (p.1, (tLook W row[k]).getD [] ++ [(k : Int)]) else p).map (·.1) = W.map (·.1) := by
      rw [List.map_map]
      refine List.map_congr_left fun p _ => ?_
      show (if p.1 = row[k] then (p.1, _) else p).1 = p.1
      split <;> rfl
    refine ⟨by rw [ef]; exact h.nd, fun m => ?_, fun x hx => ?_⟩
    · rw [ef, h.mem, tk]
      exact ⟨.inl, fun z => z.elim id fun e => by rw [e]; exact (h.mem _).mp hm⟩
    · obtain ⟨y, hy, rfl⟩ := List.mem_map.mp hx
      have hv := h.val y hy
      by_cases e : y.1 = row[k]
      · rw [if_pos e, clsK_succ, gk, if_pos e.symm]
        have := look_of h.nd hy
        rw [e] at this
        rw [this]
        show y.2 ++ _ = _
        rw [hv]
      · rw [if_neg e, clsK_succ, gk, if_neg fun z => e z.symm, List.append_nil]
        exact hv
  · have hany : ¬ (W.any fun p => decide (p.1 = row[k])) = true := by
      intro z
      obtain ⟨x, hx, e⟩ := List.any_eq_true.mp z
      exact hm (List.mem_map.mpr ⟨x, hx, by simpa using e⟩)
    unfold tPut
    rw [if_neg hany, look_no hm]
    have nt : row[k] ∉ row.take k := fun z => hm ((h.mem _).mpr z)
    refine ⟨?_, fun m => ?_, fun x hx => ?_⟩
    · rw [List.map_append, List.nodup_append]
      refine ⟨h.nd, by simp, fun a ha b hb e => ?_⟩
      have : b = row[k] := by simpa using hb
      subst this
      subst e
      exact hm ha
    · rw [List.map_append, List.mem_append, h.mem, tk]
      simp
    · rcases List.mem_append.mp hx with hx | hx
      · have ne : ¬ row[k] = x.1 := fun z => hm (List.mem_map.mpr ⟨x, hx, z.symm⟩)
        rw [clsK_succ, gk, if_neg ne, List.append_nil]
        exact h.val x hx
      · have : x = (row[k], [(k : Int)]) := by simpa using hx
        subst this
        rw [clsK_succ, gk, if_pos rfl, clsK_none (Nat.le_of_lt hk) nt]
        rfl
theorem WK.done {row : List Int} {W : List (Int × List Int)} (h : WK row row.length W) : sortL (W.map (·.2)) = sortL (wardsL row) := by
  have e1 : W.map (·.2) = (W.map (·.1)).map (cls row) := by
    rw [List.map_map]
    exact List.map_congr_left fun x hx => h.val x hx
  have p : (W.map (·.1)).Perm (setI row) := (List.perm_ext_iff_of_nodup h.nd (lt_nodup (setI_pw row))).mpr fun m => by rw [h.mem, List.take_length, mem_setI]
  refine sortedL_uniq ((sortL_perm _).trans (List.Perm.trans ?_ (sortL_perm _).symm)) (sortL_sorted _) (sortL_sorted _)
  rw [e1]
  exact p.map _
theorem WK.look_len {row : List Int} {k : Nat} {W : List (Int × List Int)} (h : WK row k W) (m : Int) : ((tLook W m).getD []).length ≤ k := by
  unfold tLook
  cases e : W.find? fun p => decide (p.1 = m) with
  | none => simp
  | some x =>
    have hx := List.mem_of_find?_eq_some e
    rw [Option.map_some, Option.getD_some, h.val x hx]
    exact clsK_len _ _ _
theorem right_l1 {folk row : List Int} {B : List (Int × Int)} {W : List (Int × List Int)} {k : Nat} (h : WK row k W) (hk : k < row.length) (hl : row.length ≤ 12) {n : Int} :
    F__law_right_l1 ((folk, B), row, W, n, (k : Int), ()) = some (.nx ((folk, B), row, tPut W row[k] ((tLook W row[k]).getD [] ++ [(k : Int)]), n, ())) := by
  have q1 := tIx_get (xs := row) (k := k) hk
  have l1 := h.look_len row[k]
  have q2 := tCat_eq (xs := (tLook W row[k]).getD []) (ys := [(k : Int)]) (by simp; omega)
  have q3 : ∀ v : List Int, tPutO W row[k] v = some (tPut W row[k] v) := fun v => if_pos (hd_lt (by have := h.len; omega))
  simp [F__law_right_l1, q1, q2, q3]
theorem good_O {α : Type} {e : α → D} {m : Nat} {x : Option α} (h : ∀ a, x = some a → Good m (e a)) : Good m (eO e x) := by
  cases x with
  | none => exact .non
  | some a => exact h a rfl
theorem sp_right {folk row : List Int} {B : List (Int × Int)} (h : LOk folk B) (hB : B.length ≤ 1000) (hl : row.length = folk.length) : F__law_right ((folk, B), row, ()) = some true := by
  have h12 := h.twelve
  have rg := tRg_nat (show folk.length < 1000000 by omega)
  rw [rgT_rgI] at rg
  have t := sp_told h hB hl
  obtain ⟨u, e1, W, hW, rfl⟩ := tFor_inv0 (l := Empty) (ι := Unit) (τ := Bool) (b := F__law_right_l1) (pu := fun (a : Int) (s : Land × List Int × List (Int × List Int) × Int × Unit) => (s.1, s.2.1, s.2.2.1, s.2.2.2.1, a, s.2.2.2.2)) (fun k u => ∃ W, WK row k W ∧ u = ((folk, B), row, W, (folk.length : Int), ())) (xs := rgI folk.length) (s := ((folk, B), row, [], (folk.length : Int), ())) ⟨[], ⟨List.nodup_nil, by simp, by simp⟩, rfl⟩ (fun i x u hx hu => by
    obtain ⟨W, h1, rfl⟩ := hu
    obtain ⟨g1, rfl⟩ := rgI_lt5 hx
    exact ⟨_, .inl (right_l1 h1 (by omega) (by omega)), _, h1.step (by omega), rfl⟩)
  rw [rgI_len, ← hl] at hW
  have hD := hW.done
  obtain ⟨w1, w2⟩ := wards_ok (row := row) (by omega)
  have a1 := hd_len (xs := W.map fun x => x.1) (by rw [List.length_map]; have := hW.len; omega)
  have e2 : mapT (fun k => tLook W k) (W.map fun x => x.1) = some (W.map fun x => x.2) := by
    rw [mapT_eq (h := fun m => (tLook W m).getD []) fun m hm => by
      obtain ⟨x, hx, rfl⟩ := List.mem_map.mp hm
      rw [look_of hW.nd hx]
      rfl]
    rw [List.map_map]
    congr 1
    exact List.map_congr_left fun x hx => by
      show (tLook W x.1).getD [] = x.2
      rw [look_of hW.nd hx]
      rfl
  have e3 : tSortL (W.map fun x => x.2) = some (sortL (wardsL row)) := by
    rw [tSortL_some, hD]
    intro w hw
    obtain ⟨x, hx, rfl⟩ := List.mem_map.mp hw
    rw [hW.val x hx]
    refine cls_ne (row := row) ?_
    have := (hW.mem x.1).mp (List.mem_map.mpr ⟨x, hx, rfl⟩)
    rwa [List.take_length] at this
  have sl : (sortL (wardsL row)).length = (wardsL row).length := (sortL_perm _).length_eq
  have a2 := hd_len (xs := sortL (wardsL row)) (by omega)
  have e4 : compT (fun x => ((((((tIx x 0).bind fun a => some (a, ())).bind fun b => some (x, b)).bind fun b => some ((folk, B), b)).bind F__law_reached).bind fun a => some (a, x)).bind fun p => some !decide (p.1 = p.2)) (fun x => some x) (sortL (wardsL row)) = some (((sortL (wardsL row)).filter fun x => !hangP B x).map fun x => x) := compT_eq (fun x hx => by
    obtain ⟨q1, q2, q3, q4⟩ := w2 x ((sortL_perm _).mem_iff.mp hx)
    cases x with
    | nil => exact absurd rfl q1
    | cons s l =>
      have q5 := sp__law_reached h (lot := s :: l) (by omega) (by rw [← hl]; exact q4) (s := s) List.mem_cons_self
      simp [tIx_0, q5, hangP]) fun _ _ _ => rfl
  have e5 : decide ((((sortL (wardsL row)).filter fun x => !hangP B x).map fun x => x) = []) = (wardsL row).all (hangP B) := by
    rw [Bool.eq_iff_iff, decide_eq_true_eq, List.map_eq_nil_iff, List.filter_eq_nil_iff, List.all_eq_true]
    constructor
    · intro z x hx
      have := z x ((sortL_perm _).mem_iff.mpr hx)
      simpa using this
    · intro z x hx
      have := z x ((sortL_perm _).mem_iff.mp hx)
      simp [this]
  have e6 : F__law_alike (eL (eO (eT (eT eI)))) ([planR B row, planR B row], [planR B row, planR B row], ()) = some true := alike_two (m := 2) (good_O fun a ha => by
    unfold planR at ha
    split at ha
    · cases ha
      refine good_T (fun p hp => good_T (fun i _ => good_I i) ?_) (by omega)
      have := w2 p ((sortL_perm _).mem_iff.mp hp)
      omega
    · cases ha) (by omega)
  have e7 : (if (wardsL row).all (hangP B) = true then some (sortL (wardsL row)) else none) = planR B row := rfl
  simp [-List.map_map, -List.all_eq_true, -List.map_eq_nil_iff, -List.filter_eq_nil_iff, -List.map_id_fun', F__law_right, rg, t, e1, a1, a2, e2, e3, e4, e5, e6, e7]

end Q

namespace Q
open PySem PySem.Spec PyProof.Rows L2 DL TL
theorem LOk.less {folk : List Int} {B C : List (Int × Int)} (h : LOk folk B) (s : C.Sublist B) : LOk folk C := ⟨h.two, h.twelve, h.many, fun p hp => h.bord p (s.subset hp), h.sort.sublist s⟩
theorem pcs_sub {B : List (Int × Int)} : ∀ (k : Nat) (l : List Int), ∀ p ∈ pcs B k l, ∀ i ∈ p, i ∈ l
  | 0, _, p, hp, _, _ => by cases hp
  | k + 1, [], p, hp, _, _ => by cases hp
  | k + 1, s :: l, p, hp, i, hi => by
    rcases List.mem_cons.mp hp with rfl | hp
    · obtain ⟨F, c⟩ := clo_ex (B := B) (lot := s :: l) (s := s) List.mem_cons_self
      rw [← compOf_eq c, mem_sortI] at hi
      exact c.sub i hi
    · exact (List.mem_filter.mp (pcs_sub k _ p hp i hi)).1
theorem sp_plan {c : Nat} {s : D} (hs : Spr c s) (hc : c < 2 ^ 57) {folk : List Int} {B : List (Int × Int)} (h : LOk folk B) (hB : B.length ≤ 1000) :
    ∃ (W : List (List Int)) (s' : D), Spr (c + 1001) s' ∧ W.length ≤ folk.length ∧ (∀ w ∈ W, w.length ≤ folk.length ∧ ∀ i ∈ w, 0 ≤ i ∧ i < folk.length) ∧ F__law_plan (s, (folk, B), ()) = some (W, s') := by
  have h12 := h.twelve
  obtain ⟨r, s1, hr, hs1, e1⟩ := drop_some hs (by omega) (m := 4) ⟨by omega, by omega⟩
  have a := hd_len (xs := B) (by omega)
  obtain ⟨C, u, e2, s', h1, h3, rfl⟩ : ∃ C u, F__law_plan_k1 (s1, (folk, B), 1 + r, ()) = some (C, u) ∧ ∃ s', Spr (c + 1 + B.length) s' ∧ C.Sublist (B.take B.length) ∧ u = (s', (folk, B), 1 + r, ()) := by
    unfold F__law_plan_k1
    refine tLx_inv (fun k (ys : List (Int × Int)) u => ∃ s', Spr (c + 1 + k) s' ∧ ys.Sublist (B.take k) ∧ u = (s', (folk, B), 1 + r, ())) (xs := B) (by simp) a ⟨s1, hs1, by simp, rfl⟩ (fun i x ys u hx hu => ?_)
    obtain ⟨s', h1, h4, rfl⟩ := hu
    obtain ⟨hi, ex⟩ := List.getElem?_eq_some_iff.mp hx
    obtain ⟨r2, s2, hr2, hs2, e2⟩ := drop_some h1 (by omega) (m := 1 + r + 1) ⟨by omega, by omega⟩
    have tk : B.take (i + 1) = B.take i ++ [x] := by rw [List.take_succ, hx]; rfl
    exact ⟨decide (0 < r2), (s2, (folk, B), 1 + r, x, ()), by simp [e2], fun _ => ⟨s2, hs2, by rw [tk]; exact h4.trans (List.sublist_append_left _ _), rfl⟩, fun _ => ⟨x, (s2, (folk, B), 1 + r, x, ()), by simp, s2, hs2, by rw [tk]; exact h4.append (List.Sublist.refl _), rfl⟩⟩
  rw [List.take_length] at h3
  have rg := tRgN_nat (show folk.length < 1000000 by omega)
  rw [rgT_rgI] at rg
  have q := sp__law_pieces (h.less h3) (lot := rgI folk.length) (by rw [rgI_len]; omega) fun i hi => mem_rgI.mp hi
  rw [rgI_len] at q
  refine ⟨pcs C folk.length (rgI folk.length), s', h1.up (by omega), pcs_len _ _, fun w hw => ⟨?_, fun i hi => mem_rgI.mp (pcs_sub _ _ w hw i hi)⟩, ?_⟩
  · have := pcs_each _ _ w hw
    rwa [rgI_len] at this
  · simp [F__law_plan, e1, e2, rg, q]

end Q

namespace Q
open PySem PySem.Spec PyProof.Rows L2 DL TL
theorem pow40 : tPow 10 40 = some 10000000000000000000000000000000000000000 := by
  have h : tPow 10 40 = some ((10 : Int) ^ 40) := if_pos (hd (show CPow 10 40 from ⟨by decide, by decide, by decide⟩))
  rw [h]
  simp
theorem three_at {a b c r : Int} (h : 0 ≤ r ∧ r < 3) : ∃ v : Int, tIx [a, b, c] r = some v := by
  have : r = 0 ∨ r = 1 ∨ r = 2 := by omega
  rcases this with rfl | rfl | rfl
  · exact ⟨a, rfl⟩
  · exact ⟨b, rfl⟩
  · exact ⟨c, rfl⟩
theorem above_le (x : Int) : ∀ l : List Int, (l.filter fun y => decide (x + 1 ≤ y)).length ≤ (l.filter fun y => decide (x ≤ y)).length
  | [] => Nat.le_refl _
  | y :: l => by
    have ih := above_le x l
    rw [List.filter_cons, List.filter_cons]
    by_cases h : x + 1 ≤ y
    · rw [if_pos (by simpa using h), if_pos (by simp; omega)]
      simp only [List.length_cons]
      omega
    · rw [if_neg (by simpa using h)]
      split
      · simp only [List.length_cons]; omega
      · exact ih
theorem above_lt {x : Int} : ∀ {l : List Int}, x ∈ l → (l.filter fun y => decide (x + 1 ≤ y)).length < (l.filter fun y => decide (x ≤ y)).length
  | y :: l, hx => by
    have le := above_le x l
    rw [List.filter_cons, List.filter_cons]
    by_cases e : x = y
    · subst e
      rw [if_neg (by simp; omega), if_pos (by simp)]
      simp only [List.length_cons]
      omega
    · have ih := above_lt (x := x) (l := l) ((List.mem_cons.mp hx).resolve_left e)
      by_cases h : x + 1 ≤ y
      · rw [if_pos (by simpa using h), if_pos (by simp; omega)]
        simp only [List.length_cons]
        omega
      · rw [if_neg (by simpa using h), if_neg (by simp; omega)]
        exact ih
theorem law_l2 {c : Nat} {s : D} (hs : Spr c s) (hc : c < 2 ^ 57) {folk : List Int} {B : List (Int × Int)} (h : LOk folk B) {ns numbers row : List Int} {t : Int} {k : Nat} {W : List (List Int)} (hk : k < W.length) (hW : ∀ w ∈ W, w.length ≤ folk.length ∧ ∀ i ∈ w, 0 ≤ i ∧ i < folk.length) (hl : row.length = folk.length) (hn : numbers.length ≤ 1000) :
    ∃ (s' : D) (numbers' row' : List Int), Spr (c + 3) s' ∧ numbers'.length = numbers.length + 1 ∧ row'.length = folk.length ∧ F_law_l2 (ns, s, t, (folk, B), W, (k : Int), numbers, row, ()) = some (.nx (ns, s', t, (folk, B), W, numbers', row', ())) := by
  obtain ⟨r1, s1, hr1, hs1, e1⟩ := drop_some hs (by omega) (m := 30) ⟨by omega, by omega⟩
  obtain ⟨r2, s2, hr2, hs2, e2⟩ := drop_some hs1 (by omega) (m := 9) ⟨by omega, by omega⟩
  obtain ⟨r3, s3, hr3, hs3, e3⟩ := drop_some hs2 (by omega) (m := 3) ⟨by omega, by omega⟩
  obtain ⟨v, e4⟩ := three_at (a := r1 - 9) (b := (k : Int)) (c := -10000000000000000000000000000000000000000 + r2) hr3
  obtain ⟨u, e5, x, rfl⟩ := tWhile_inv (l := List Int × D × Int × Land × List (List Int) × List Int × List Int × Unit) (ι := Unit) (τ := Bool) (c := F_law_l3_t) (b := F_law_l3)
    (fun u => ∃ x, u = (ns, s3, t, (folk, B), W, (k : Int), numbers, row, x, ())) (fun u => ∃ x, u = (ns, s3, t, (folk, B), W, (k : Int), numbers, row, x, ()))
    (fun u => (u.2.2.2.2.2.2.1.filter fun y => decide (u.2.2.2.2.2.2.2.2.1 ≤ y)).length)
    (fun u hu => by
      obtain ⟨x, rfl⟩ := hu
      refine ⟨decide (x ∈ numbers), by simp [F_law_l3_t], fun _ => ⟨x, rfl⟩, fun q => ?_⟩
      have hx : x ∈ numbers := by simpa using q
      exact ⟨(ns, s3, t, (folk, B), W, (k : Int), numbers, row, x + 1, ()), .inl (by simp [F_law_l3]), ⟨x + 1, rfl⟩, above_lt hx⟩)
    (n := fuel) (s := (ns, s3, t, (folk, B), W, (k : Int), numbers, row, v, ())) ⟨v, rfl⟩ (by
      rw [fuel_eq]
      have := List.length_filter_le (fun y => decide (v ≤ y)) numbers
      show (numbers.filter fun y => decide (v ≤ y)).length < _
      omega)
  have q1 := tApp_some (xs := numbers) (x := x) (by omega)
  have q2 := tIx_get (xs := W) (k := k) hk
  obtain ⟨w1, w2⟩ := hW W[k] (List.getElem_mem hk)
  obtain ⟨u, e6, row', h6, rfl⟩ := tFor_inv0 (l := List Int × D × Int × Land × List (List Int) × List Int × List Int × Unit) (ι := Unit) (τ := Bool) (b := F_law_l4) (pu := fun (a : Int) (s : List Int × D × Int × Land × List (List Int) × Int × List Int × List Int × Int × Unit) => (s.1, s.2.1, s.2.2.1, s.2.2.2.1, s.2.2.2.2.1, s.2.2.2.2.2.1, s.2.2.2.2.2.2.1, s.2.2.2.2.2.2.2.1, s.2.2.2.2.2.2.2.2.1, a, s.2.2.2.2.2.2.2.2.2)) (fun _ u => ∃ row', row'.length = folk.length ∧ u = (ns, s3, t, (folk, B), W, (k : Int), numbers ++ [x], row', x, ())) (xs := W[k]) (s := (ns, s3, t, (folk, B), W, (k : Int), numbers ++ [x], row, x, ())) ⟨row, hl, rfl⟩ (fun i p u hp hu => by
    obtain ⟨row', h6, rfl⟩ := hu
    obtain ⟨p1, p2⟩ := w2 p (List.mem_of_getElem? hp)
    obtain ⟨j, rfl⟩ : ∃ j : Nat, p = (j : Int) := ⟨p.toNat, by omega⟩
    have q := tSet_some (xs := row') (k := j) (x := x) (by omega)
    exact ⟨_, .inl (by simp [F_law_l4, q]), row'.set j x, by simp [h6], rfl⟩)
  refine ⟨s3, numbers ++ [x], row', hs3.up (by omega), by simp, h6, ?_⟩
  simp [F_law_l2, e1, e2, e3, e4, e5, e6, pow40, q1, q2]
theorem law_l1 {c : Nat} {s : D} (hs : Spr c s) (hc : c < 2 ^ 56) {ns : List Int} {t : Int} : ∃ s', Spr (c + 3000) s' ∧ F_law_l1 (ns, s, t, ()) = some (.nx (ns, s', ())) := by
  obtain ⟨folk, B, s1, hs1, h, hB, hl, e1⟩ := sp_land hs (by omega) (places := 12) (by omega)
  obtain ⟨W, s2, hs2, hW1, hW2, e2⟩ := sp_plan hs1 (by omega) h hB
  have h2 := h.two
  have h12 := h.twelve
  have e3 := tRepL_some (a := [(0 : Int)]) (k := folk.length) (by simp; omega) (by omega)
  obtain ⟨row0, hrow0, er⟩ : ∃ row0 : List Int, row0.length = folk.length ∧ (List.replicate folk.length [(0 : Int)]).flatten = row0 := ⟨_, by simp, rfl⟩
  rw [er] at e3
  have r1 := tRg_nat (show W.length < 1000000 by omega)
  rw [rgT_rgI] at r1
  obtain ⟨u, e4, s3, numbers, row, hs3, hn, hr, rfl⟩ := tFor_inv0 (l := List Int × D × Unit) (ι := Unit) (τ := Bool) (b := F_law_l2) (pu := fun (a : Int) (s : List Int × D × Int × Land × List (List Int) × List Int × List Int × Unit) => (s.1, s.2.1, s.2.2.1, s.2.2.2.1, s.2.2.2.2.1, a, s.2.2.2.2.2)) (fun k u => ∃ (s' : D) (numbers row : List Int), Spr (c + 2001 + 3 * k) s' ∧ numbers.length = k ∧ row.length = folk.length ∧ u = (ns, s', t, (folk, B), W, numbers, row, ())) (xs := rgI W.length) (s := (ns, s2, t, (folk, B), W, [], row0, ())) ⟨s2, [], row0, hs2.up (by omega), rfl, hrow0, rfl⟩ (fun i x u hx hu => by
    obtain ⟨s', numbers, row, h1, h3, h4, rfl⟩ := hu
    obtain ⟨g1, rfl⟩ := rgI_lt5 hx
    obtain ⟨s3, n3, w3, h5, h6, h7, e⟩ := law_l2 h1 (by omega) h (ns := ns) (numbers := numbers) (row := row) (t := t) (k := i) g1 hW2 h4 (by omega)
    exact ⟨_, .inl e, s3, n3, w3, h5.up (by omega), by omega, h7, rfl⟩)
  rw [rgI_len] at hs3
  have e5 := sp_right h hB hr
  obtain ⟨x1, s4, hx1, hs4, e6⟩ := drop_some hs3 (by omega) (m := row.length) ⟨by omega, by omega⟩
  obtain ⟨x2, s5, hx2, hs5, e7⟩ := drop_some hs4 (by omega) (m := row.length) ⟨by omega, by omega⟩
  obtain ⟨y1, rfl⟩ : ∃ j : Nat, x1 = (j : Int) := ⟨x1.toNat, by omega⟩
  obtain ⟨y2, rfl⟩ : ∃ j : Nat, x2 = (j : Int) := ⟨x2.toNat, by omega⟩
  have q1 := tIx_get (xs := row) (k := y1) (by omega)
  have q2 := tSet_some (xs := row) (k := y2) (x := row[y1]'(by omega)) (by omega)
  obtain ⟨row2, hr2, er2⟩ : ∃ row2, row2.length = folk.length ∧ row.set y2 (row[y1]'(by omega)) = row2 := ⟨row.set y2 (row[y1]'(by omega)), by simp [hr], rfl⟩
  rw [er2] at q2
  have e8 := sp_right h hB hr2
  have a2 := hd_len (xs := row2) (by omega)
  obtain ⟨row3, u, e9, s6, hs6, hr3, rfl⟩ : ∃ row3 u, F_law_k1 (ns, s5, t, (folk, B), W, numbers, row2, ()) = some (row3, u) ∧ ∃ s6, Spr (c + 2001 + 3 * W.length + 1 + 1 + row2.length) s6 ∧ row3.length = row2.length ∧ u = (ns, s6, t, (folk, B), W, numbers, row2, ()) := by
    unfold F_law_k1
    refine tLx_inv (fun k (ys : List Int) u => ∃ s', Spr (c + 2001 + 3 * W.length + 1 + 1 + k) s' ∧ ys.length = k ∧ u = (ns, s', t, (folk, B), W, numbers, row2, ())) (xs := row2) (by simp) a2 ⟨s5, hs5, rfl, rfl⟩ (fun i x ys u hx hu => ?_)
    obtain ⟨s', h1, h4, rfl⟩ := hu
    obtain ⟨hi, ex⟩ := List.getElem?_eq_some_iff.mp hx
    obtain ⟨r2, s2, hr2, hs2, e2⟩ := drop_some h1 (by omega) (m := 3) ⟨by omega, by omega⟩
    exact ⟨true, (ns, s', t, (folk, B), W, numbers, row2, x, ()), by simp, fun z => (by cases z), fun _ => ⟨r2, (ns, s2, t, (folk, B), W, numbers, row2, x, ()), by simp [e2], s2, hs2, by simp [h4], rfl⟩⟩
  have e10 := sp_right h hB (hr3.trans hr2)
  refine ⟨s6, hs6.up (by omega), ?_⟩
  simp [F_law_l1, e1, e2, e3, r1, e4, e5, e6, e7, q1, q2, e8, e9, e10]
theorem law_true (ns : List Int) (hl : ns.length ≤ 63) (hb : ∀ z ∈ ns, Builtin.Int.intBits z ≤ 1048576) : F_law (ns, ()) = some true := by
  obtain ⟨s, hs, e1⟩ := spring_some ns hl hb
  obtain ⟨u, e2, s2, _, rfl⟩ := tFor_inv0 (l := Empty) (ι := Unit) (τ := Bool) (b := F_law_l1) (pu := fun (a : Int) (s : List Int × D × Unit) => (s.1, s.2.1, a, s.2.2)) (fun k u => ∃ s', Spr (3000 * k) s' ∧ u = (ns, s', ())) (xs := rgI 8) (s := (ns, s, ())) ⟨s, hs, rfl⟩ (fun i x u hx hu => by
    obtain ⟨s', h1, rfl⟩ := hu
    obtain ⟨g1, rfl⟩ := rgI_lt5 hx
    obtain ⟨s3, h3, e⟩ := law_l1 h1 (by omega) (ns := ns) (t := i)
    exact ⟨_, .inl e, s3, h3.up (by omega), rfl⟩)
  have r6 : tRg 8 = some (rgI 8) := by
    have := tRg_nat (show 8 < 1000000 by omega)
    rw [rgT_rgI] at this
    exact this
  simp [F_law, e1, r6, e2]
theorem hlaw (ns : List Int) (hl : ns.length ≤ 63) (hb : ∀ z ∈ ns, Builtin.Int.intBits z ≤ 1048576) : ∃ n, D_law [.list (ns.map .int)] = .ok (.bool true, n) := by
  obtain ⟨n, h, _⟩ := t_law.ex (ns, ()) true (law_true ns hl hb)
  exact ⟨n, h⟩

end Q

namespace DL
open PySem PySem.Spec PyProof.Rows L2
/-- the walk's end, the script's ints of bounded bits -/
theorem walk_bits {l : PySem.W.OpenLaw} {n k : Nat} {q : Program} {loose : List Str} {XP : (Str → Option Value) → Heap → Prop} {YP : World → Heap → Prop} {d : DefRec} {x : Str} (hn : l.most = some n) (hs : n ≤ sizeLine) (hp : d.params.defaults = []) (room : Room k callerA)
    (go : ∀ (w : World) (mg : Str → Option Value) (fa : Addr) (h : Heap), YP w h → h.Ns mainGlobals mg → mg d.name = some (.ref fa) →
      ∃ (K : PySem.W.Frag) (fd : FuncData) (sp : Sp), K.In h ∧ (∀ (s : Shared) (u : Value), BindsTo s fd ⟨[u], []⟩ [(x, u)]) ∧
        (∀ (H : Hp) (a : Addr) (ns : List Int), ns.length ≤ n → (∀ z ∈ ns, Builtin.Int.intBits z ≤ 1048576) → SqL K H a (ns.map V.int) → sp [.ref a] H (fun v _ => v = .bl true) fun _ _ _ => False) ∧
        ∀ base : Heap, K.In base → base.Ns mainGlobals mg → FnOk l.prog w K mg base CX0 k fa fd [x] sp) :
    PySem.W.WalkO q loose XP YP l.row.toRowW d [] (fun f vs => PySem.call f vs) := by
  refine Att.attach_callB hn hp fun w s0 s1 mg mb fa o pm cd doc a vs ns G Y h1 h2 h3 h4 h5 h6 h7 h8 h9 => ?_
  obtain ⟨K, fd, sp, kin, bnd, hsp, hF⟩ := go w mg fa _ Y G.T.g h4
  exact law_call kin G.T.g G.T.b G.T.builtins G.T.nolimit h9 h5 h6 (Nat.le_trans h7 hs) room hF bnd (fun H _ hS => hsp H a ns h7 h8 hS) fun _ _ _ z => z
theorem law_sp {K : PySem.W.Frag} {mg : Str → Option Value} {g : List D → Res (D × Nat)} {H : Hp} {a : Addr} {ns : List Int} (hS : SqL K H a (ns.map V.int)) (h : ∃ n, g [.list (ns.map .int)] = .ok (.bool true, n)) :
    SpD K mg 1 g [.ref a] H (fun v _ => v = .bl true) fun _ _ _ => False := by
  obtain ⟨n, h⟩ := h
  refine ⟨[.list (ns.map .int)], fun x => H x ≠ none, rfl, .cons ?_ .nil, fun _ z => z, ?_⟩
  · rcases hS with r | k
    · exact .lst (by rcases r with r | ⟨o, r⟩ <;> rw [r] <;> exact fun z => by cases z) r (rep_ints ns)
    · exact .klst k (rep_ints ns)
  · rw [h]
    exact fun v H' F' A _ o => own_bool o
end DL

namespace Q
open PySem PySem.Spec PyProof.Rows L2 DL
def d__law_spring : He.DefD := ⟨("_law_spring", none), "_law_spring", "_law_spring", defArgs (top 23), defBody (top 23), defScope (top 23), [], []⟩
def d__law_drop : He.DefD := ⟨("_law_drop", none), "_law_drop", "_law_drop", defArgs (top 24), defBody (top 24), defScope (top 24), [], []⟩
def d__law_order : He.DefD := ⟨("_law_order", none), "_law_order", "_law_order", defArgs (top 28), defBody (top 28), defScope (top 28), [], []⟩
def d__law_land : He.DefD := ⟨("_law_land", none), "_law_land", "_law_land", defArgs (top 27), defBody (top 27), defScope (top 27), [], []⟩
def d__law_near : He.DefD := ⟨("_law_near", none), "_law_near", "_law_near", defArgs (top 29), defBody (top 29), defScope (top 29), [], []⟩
def d__law_reached : He.DefD := ⟨("_law_reached", none), "_law_reached", "_law_reached", defArgs (top 30), defBody (top 30), defScope (top 30), [], []⟩
def d__law_pieces : He.DefD := ⟨("_law_pieces", none), "_law_pieces", "_law_pieces", defArgs (top 31), defBody (top 31), defScope (top 31), [], []⟩
def d__law_plan : He.DefD := ⟨("_law_plan", none), "_law_plan", "_law_plan", defArgs (top 32), defBody (top 32), defScope (top 32), [], []⟩
def d__law_kinds : He.DefD := ⟨("_law_kinds", none), "_law_kinds", "_law_kinds", defArgs (top 25), defBody (top 25), defScope (top 25), [], []⟩
def d__law_alike : He.DefD := ⟨("_law_alike", none), "_law_alike", "_law_alike", defArgs (top 26), defBody (top 26), defScope (top 26), [], []⟩
def d_is_integer : He.DefD := ⟨("is_integer", none), "is_integer", "is_integer", defArgs (top 6), defBody (top 6), defScope (top 6), [], []⟩
def d_is_between : He.DefD := ⟨("is_between", none), "is_between", "is_between", defArgs (top 7), defBody (top 7), defScope (top 7), [], []⟩
def d_folk_fault : He.DefD := ⟨("folk_fault", none), "folk_fault", "folk_fault", defArgs (top 14), defBody (top 14), defScope (top 14), [], []⟩
def d_is_tuple_of : He.DefD := ⟨("is_tuple_of", none), "is_tuple_of", "is_tuple_of", defArgs (top 8), defBody (top 8), defScope (top 8), [], []⟩
def d_is_border : He.DefD := ⟨("is_border", none), "is_border", "is_border", defArgs (top 13), defBody (top 13), defScope (top 13), [], []⟩
def d_land_fault : He.DefD := ⟨("land_fault", none), "land_fault", "land_fault", defArgs (top 15), defBody (top 15), defScope (top 15), [], []⟩
def d_check_land : He.DefD := ⟨("check_land", none), "check_land", "check_land", defArgs (top 16), defBody (top 16), defScope (top 16), [], []⟩
def d_as_plan : He.DefD := ⟨("as_plan", none), "as_plan", "as_plan", defArgs (top 20), defBody (top 20), defScope (top 20), [], []⟩
def d_size_of : He.DefD := ⟨("size_of", none), "size_of", "size_of", defArgs (top 12), defBody (top 12), defScope (top 12), [], []⟩
def d_reached : He.DefD := ⟨("reached", none), "reached", "reached", defArgs (top 18), defBody (top 18), defScope (top 18), [], []⟩
def d_hangs_of : He.DefD := ⟨("hangs_of", none), "hangs_of", "hangs_of", defArgs (top 19), defBody (top 19), defScope (top 19), [], []⟩
def d_rows_of : He.DefD := ⟨("rows_of", none), "rows_of", "rows_of", defArgs (top 17), defBody (top 17), defScope (top 17), [], []⟩
def d_plan_of : He.DefD := ⟨("plan_of", none), "plan_of", "plan_of", defArgs (top 21), defBody (top 21), defScope (top 21), [], []⟩
def d__law_told : He.DefD := ⟨("_law_told", none), "_law_told", "_law_told", defArgs (top 34), defBody (top 34), defScope (top 34), [], []⟩
def d__law_right : He.DefD := ⟨("_law_right", none), "_law_right", "_law_right", defArgs (top 35), defBody (top 35), defScope (top 35), [], []⟩
def d_law : He.DefD := ⟨("law", none), "law", "law", defArgs (top 36), defBody (top 36), defScope (top 36), [], []⟩
def fn0 : List He.DefD := [d__law_spring, d__law_drop, d__law_order, d__law_land, d__law_near, d__law_reached, d__law_pieces, d__law_plan, d__law_kinds, d__law_alike, d_is_integer, d_is_between, d_folk_fault, d_is_tuple_of, d_is_border, d_land_fault, d_check_land, d_as_plan, d_size_of, d_reached, d_hangs_of, d_rows_of, d_plan_of, d__law_told, d__law_right, d_law]
def fn : List He.DefD := fn0
def fa0 : List He.Fa := [.glo "_law_spring", .glo "_law_drop", .glo "_law_order", .glo "_law_land", .glo "_law_near", .glo "_law_reached", .glo "_law_pieces", .glo "_law_plan", .glo "_law_kinds", .glo "_law_alike", .glo "is_integer", .glo "is_between", .glo "folk_fault", .glo "is_tuple_of", .glo "is_border", .glo "land_fault", .glo "check_land", .glo "as_plan", .glo "size_of", .glo "reached", .glo "hangs_of", .glo "rows_of", .glo "plan_of", .glo "_law_told", .glo "_law_right", .glo "law", .free "all", .free "bool", .free "enumerate", .free "int"]
def fa1 : List He.Fa := [.free "isinstance", .free "len", .free "list", .free "max", .free "min", .free "range", .free "set", .free "sorted", .free "str", .free "tuple", .int "MOST_FOLK" 1000000, .int "MOST_PLACES" 12, .glo "Refused", .glo "WardError", .exc "Refused", .exm "Refused" "Refused" true, .exm "Refused" "WardError" true]
def fa : List He.Fa := fa0 ++ fa1
def loose0 : List Str := ["WardError", "InvalidPart", "Refused", "InvalidLand", "is_integer", "is_between", "is_tuple_of", "MOST_PLACES", "MOST_FOLK", "size_of", "is_border", "folk_fault", "land_fault", "check_land", "rows_of", "reached", "hangs_of", "as_plan", "plan_of", "_law_spring", "_law_drop", "_law_kinds", "_law_alike", "_law_land", "_law_order", "_law_near", "_law_reached", "_law_pieces", "_law_plan", "_law_some"]
def loose1 : List Str := ["_law_told", "_law_right"]
def loose : List Str := loose0 ++ loose1
abbrev R : PySem.W.OpenRow := PySem.W.OpenLaw.row PySem.Challenge.rw_wardsdrawn_k05_plans_of_rows
abbrev hk : PySem.W.Hook := He.hookD 4 fa fn
def ob (s : PySem.W.SharedT) : He.AlD := He.obsDG 4 fa fn (HandSHeadRun.getT s)
theorem ob_eq (s : PySem.W.SharedT) : ob s = hk.obs s.abs := He.obsDG_eq (HandSHeadRun.getT_eq s)
theorem run (w : World) : HandSHeadRun.RunEq R (PySem.W.view R.prog [36]) hk ob 6000 loose w := by
  intro os
  kernel_rfl
theorem facts {K : PySem.W.Frag} {h : Heap} {mg : Str → Option Value} (X : K.In h) (G : h.Ns mainGlobals mg) (c : He.SaysD fa fn K) : ∃ n : Nm, Fx K mg n := by
  obtain ⟨e0, F0⟩ := c.def_ 0 (d := d__law_spring) rfl
  obtain ⟨e1, F1⟩ := c.def_ 1 (d := d__law_drop) rfl
  obtain ⟨e2, F2⟩ := c.def_ 2 (d := d__law_order) rfl
  obtain ⟨e3, F3⟩ := c.def_ 3 (d := d__law_land) rfl
  obtain ⟨e4, F4⟩ := c.def_ 4 (d := d__law_near) rfl
  obtain ⟨e5, F5⟩ := c.def_ 5 (d := d__law_reached) rfl
  obtain ⟨e6, F6⟩ := c.def_ 6 (d := d__law_pieces) rfl
  obtain ⟨e7, F7⟩ := c.def_ 7 (d := d__law_plan) rfl
  obtain ⟨e8, F8⟩ := c.def_ 8 (d := d__law_kinds) rfl
  obtain ⟨e9, F9⟩ := c.def_ 9 (d := d__law_alike) rfl
  obtain ⟨e10, F10⟩ := c.def_ 10 (d := d_is_integer) rfl
  obtain ⟨e11, F11⟩ := c.def_ 11 (d := d_is_between) rfl
  obtain ⟨e12, F12⟩ := c.def_ 12 (d := d_folk_fault) rfl
  obtain ⟨e13, F13⟩ := c.def_ 13 (d := d_is_tuple_of) rfl
  obtain ⟨e14, F14⟩ := c.def_ 14 (d := d_is_border) rfl
  obtain ⟨e15, F15⟩ := c.def_ 15 (d := d_land_fault) rfl
  obtain ⟨e16, F16⟩ := c.def_ 16 (d := d_check_land) rfl
  obtain ⟨e17, F17⟩ := c.def_ 17 (d := d_as_plan) rfl
  obtain ⟨e18, F18⟩ := c.def_ 18 (d := d_size_of) rfl
  obtain ⟨e19, F19⟩ := c.def_ 19 (d := d_reached) rfl
  obtain ⟨e20, F20⟩ := c.def_ 20 (d := d_hangs_of) rfl
  obtain ⟨e21, F21⟩ := c.def_ 21 (d := d_rows_of) rfl
  obtain ⟨e22, F22⟩ := c.def_ 22 (d := d_plan_of) rfl
  obtain ⟨e23, F23⟩ := c.def_ 23 (d := d__law_told) rfl
  obtain ⟨e24, F24⟩ := c.def_ 24 (d := d__law_right) rfl
  obtain ⟨e25, F25⟩ := c.def_ 25 (d := d_law) rfl
  obtain ⟨t0, c0⟩ := He.int_ok X G (c.fact 40 (f := .int "MOST_FOLK" 1000000) rfl)
  obtain ⟨t1, c1⟩ := He.int_ok X G (c.fact 41 (f := .int "MOST_PLACES" 12) rfl)
  exact ⟨{ a__law_spring := _, d__law_spring := e0, a__law_drop := _, d__law_drop := e1, a__law_order := _, d__law_order := e2, a__law_land := _, d__law_land := e3, a__law_near := _, d__law_near := e4, a__law_reached := _, d__law_reached := e5, a__law_pieces := _, d__law_pieces := e6, a__law_plan := _, d__law_plan := e7, a__law_kinds := _, d__law_kinds := e8, a__law_alike := _, d__law_alike := e9, a_is_integer := _, d_is_integer := e10, a_is_between := _, d_is_between := e11, a_folk_fault := _, d_folk_fault := e12, a_is_tuple_of := _, d_is_tuple_of := e13, a_is_border := _, d_is_border := e14, a_land_fault := _, d_land_fault := e15, a_check_land := _, d_check_land := e16, a_as_plan := _, d_as_plan := e17, a_size_of := _, d_size_of := e18, a_reached := _, d_reached := e19, a_hangs_of := _, d_hangs_of := e20, a_rows_of := _, d_rows_of := e21, a_plan_of := _, d_plan_of := e22, a__law_told := _, d__law_told := e23, a__law_right := _, d__law_right := e24, a_law := _, d_law := e25, u_MOST_FOLK := .int 1000000 t0, u_MOST_PLACES := .int 12 t1, o_Refused := _, o_WardError := _ }, { F__law_spring := F0, g__law_spring := He.glo_ok X G (c.fact 0 (f := .glo "_law_spring") rfl), F__law_drop := F1, g__law_drop := He.glo_ok X G (c.fact 1 (f := .glo "_law_drop") rfl), F__law_order := F2, g__law_order := He.glo_ok X G (c.fact 2 (f := .glo "_law_order") rfl), F__law_land := F3, g__law_land := He.glo_ok X G (c.fact 3 (f := .glo "_law_land") rfl), F__law_near := F4, g__law_near := He.glo_ok X G (c.fact 4 (f := .glo "_law_near") rfl), F__law_reached := F5, g__law_reached := He.glo_ok X G (c.fact 5 (f := .glo "_law_reached") rfl), F__law_pieces := F6, g__law_pieces := He.glo_ok X G (c.fact 6 (f := .glo "_law_pieces") rfl), F__law_plan := F7, g__law_plan := He.glo_ok X G (c.fact 7 (f := .glo "_law_plan") rfl), F__law_kinds := F8, g__law_kinds := He.glo_ok X G (c.fact 8 (f := .glo "_law_kinds") rfl), F__law_alike := F9, g__law_alike := He.glo_ok X G (c.fact 9 (f := .glo "_law_alike") rfl), F_is_integer := F10, g_is_integer := He.glo_ok X G (c.fact 10 (f := .glo "is_integer") rfl), F_is_between := F11, g_is_between := He.glo_ok X G (c.fact 11 (f := .glo "is_between") rfl), F_folk_fault := F12, g_folk_fault := He.glo_ok X G (c.fact 12 (f := .glo "folk_fault") rfl), F_is_tuple_of := F13, g_is_tuple_of := He.glo_ok X G (c.fact 13 (f := .glo "is_tuple_of") rfl), F_is_border := F14, g_is_border := He.glo_ok X G (c.fact 14 (f := .glo "is_border") rfl), F_land_fault := F15, g_land_fault := He.glo_ok X G (c.fact 15 (f := .glo "land_fault") rfl), F_check_land := F16, g_check_land := He.glo_ok X G (c.fact 16 (f := .glo "check_land") rfl), F_as_plan := F17, g_as_plan := He.glo_ok X G (c.fact 17 (f := .glo "as_plan") rfl), F_size_of := F18, g_size_of := He.glo_ok X G (c.fact 18 (f := .glo "size_of") rfl), F_reached := F19, g_reached := He.glo_ok X G (c.fact 19 (f := .glo "reached") rfl), F_hangs_of := F20, g_hangs_of := He.glo_ok X G (c.fact 20 (f := .glo "hangs_of") rfl), F_rows_of := F21, g_rows_of := He.glo_ok X G (c.fact 21 (f := .glo "rows_of") rfl), F_plan_of := F22, g_plan_of := He.glo_ok X G (c.fact 22 (f := .glo "plan_of") rfl), F__law_told := F23, g__law_told := He.glo_ok X G (c.fact 23 (f := .glo "_law_told") rfl), F__law_right := F24, g__law_right := He.glo_ok X G (c.fact 24 (f := .glo "_law_right") rfl), F_law := F25, g_law := He.glo_ok X G (c.fact 25 (f := .glo "law") rfl), b_all := He.free_ok X G (c.fact 26 (f := .free "all") rfl), b_bool := He.free_ok X G (c.fact 27 (f := .free "bool") rfl), b_enumerate := He.free_ok X G (c.fact 28 (f := .free "enumerate") rfl), b_int := He.free_ok X G (c.fact 29 (f := .free "int") rfl), b_isinstance := He.free_ok X G (c.fact 30 (f := .free "isinstance") rfl), b_len := He.free_ok X G (c.fact 31 (f := .free "len") rfl), b_list := He.free_ok X G (c.fact 32 (f := .free "list") rfl), b_max := He.free_ok X G (c.fact 33 (f := .free "max") rfl), b_min := He.free_ok X G (c.fact 34 (f := .free "min") rfl), b_range := He.free_ok X G (c.fact 35 (f := .free "range") rfl), b_set := He.free_ok X G (c.fact 36 (f := .free "set") rfl), b_sorted := He.free_ok X G (c.fact 37 (f := .free "sorted") rfl), b_str := He.free_ok X G (c.fact 38 (f := .free "str") rfl), b_tuple := He.free_ok X G (c.fact 39 (f := .free "tuple") rfl), c_MOST_FOLK := c0, r_MOST_FOLK := ⟨t0, rfl⟩, c_MOST_PLACES := c1, r_MOST_PLACES := ⟨t1, rfl⟩, k_Refused := He.glo_ok X G (c.fact 42 (f := .glo "Refused") rfl), k_WardError := He.glo_ok X G (c.fact 43 (f := .glo "WardError") rfl), x_Refused := ⟨He.glo_ok X G (c.fact 42 (f := .glo "Refused") rfl), (He.exc_ok (c.fact 44 (f := .exc "Refused") rfl)).1, (He.exc_ok (c.fact 44 (f := .exc "Refused") rfl)).2.1, (He.exc_ok (c.fact 44 (f := .exc "Refused") rfl)).2.2.1, (He.exc_ok (c.fact 44 (f := .exc "Refused") rfl)).2.2.2⟩, m_Refused_Refused := He.exm_ok (c.fact 45 (f := .exm "Refused" "Refused" true) rfl), m_Refused_WardError := He.exm_ok (c.fact 46 (f := .exm "Refused" "WardError" true) rfl) }⟩
end Q
open PySem PySem.W PySem.Calls PyProof.Rows
theorem Q.holds (hlaw : ∀ ns : List Int, ns.length ≤ 63 → (∀ z ∈ ns, Builtin.Int.intBits z ≤ 1048576) → ∃ n, Q.D_law [.list (ns.map .int)] = .ok (.bool true, n)) : PySem.Challenge.rw_wardsdrawn_k05_plans_of_rows.Holds := by
  w_on; o_law
  refine HandSHeadRun.head_any (r := OpenLaw.row PySem.Challenge.rw_wardsdrawn_k05_plans_of_rows) (q := view (OpenLaw.row PySem.Challenge.rw_wardsdrawn_k05_plans_of_rows).prog [36]) (H := Q.hk) (ob := Q.ob) (M := 6000) (loose := Q.loose) (d := HandSHeadRun.topDef (OpenLaw.row PySem.Challenge.rw_wardsdrawn_k05_plans_of_rows).prog 36) (kwd := []) Q.ob_eq
    (by kernel_rfl) (fun s => by kernel_rfl) Q.run (by kernel_rfl) (by kernel_rfl) (by kernel_rfl) (by rfl) (by first | assumption | decide +kernel) (by decide +kernel) ⟨rfl, rfl, rfl, rfl, rfl, by decide +kernel⟩ ?hw ?hc
  case hw => w_witness2
  case hc =>
    refine DL.walk_bits (l := PySem.Challenge.rw_wardsdrawn_k05_plans_of_rows) (n := 63) (k := 9) (x := "script") rfl (by decide) (by kernel_rfl) ⟨rfl, by decide, by decide⟩ ?F
    intro w mg fa h Y G hmg0
    obtain ⟨K, KX, c⟩ := Y
    have hmg : mg ("law" : PySem.Str) = some (.ref fa) := by
      have e : (HandSHeadRun.topDef (OpenLaw.row PySem.Challenge.rw_wardsdrawn_k05_plans_of_rows).prog 36).name = ("law" : PySem.Str) := by kernel_rfl
      rw [← e]
      exact hmg0
    obtain ⟨n, Z⟩ := Q.facts KX G c
    have ea := hmg.symm.trans Z.g_law
    cases ea
    have b := L2.FunD.bindsA (ps := ["script"]) Z.F_law fun _ _ _ _ _ _ us hl => match us, hl with | [_], _ => rfl
    exact ⟨K, n.d_law, DL.SpD K mg 1 Q.D_law, KX, fun s v => b s [v] rfl, fun H a ns hl hb hS => DL.law_sp hS (hlaw ns hl hb), fun base _ _ => Q.ok_law Z⟩

theorem PySem.Challenge.cw_wardsdrawn_k05_plans_of_rows_holds : PySem.Challenge.rw_wardsdrawn_k05_plans_of_rows.Holds := by
  exact Q.holds Q.hlaw
