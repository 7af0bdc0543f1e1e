import PyProof.Rows.All
import HandS.ForMost
import HandS.ForExc
import HandS.Walk
import HandS.Gcd
import HandS.Wide
import HandS.Defaults
import HandS.CallSlots
import HandS.HeadHook2
import HandS.IsInst
import HandS.Style
import HandS.Conv
import HandS.SortRule
import HandS.SortInts
import HandS.Deep
import HandS.Head0
import HandS.Head1
import HandS.Head2
import HandS.HeadEnd
import HandS.HeadHook1
import HandS.EndBits
import Wide.All
import OpenK.AllK
import Wide.FinOn
import KE.KStateDown
import PySem.Challenge.RW_judgesandtrees_k02_ratios_by_own_sums
set_option Elab.async false
set_option linter.all false
set_option maxRecDepth 100000
set_option maxHeartbeats 1000000
/-! Py, part A: results, hidden heaps, representations, slots, states. -/
namespace Py
open PySem PySem.Spec L2

/-! ### results -/
/-- what an own error says: its class, its fields -/
structure Ex where
  cls : String
  fs : List (String × PyData)
inductive Res (α : Type) where
  | ok (a : α)
  | err (e : Ex)
  | bad
def Res.bind {α β : Type} : Res α → (α → Res β) → Res β
  | .ok a, f => f a
  | .err e, _ => .err e
  | .bad, _ => .bad
/-- errors shut off -/
def Res.quiet {α : Type} : Res α → Res α
  | .ok a => .ok a
  | _ => .bad
def guardR {α : Type} (c : Bool) (m : Res α) : Res α := if c then m else .bad
def Post {α : Type} (m : Res α) (Q : α → Prop) (E : Ex → Prop) : Prop := match m with
  | .ok a => Q a
  | .err e => E e
  | .bad => False
section
variable {α β : Type} {m : Res α} {f : α → Res β} {Q Q' : α → Prop} {E E' : Ex → Prop} {R : β → Prop}
theorem Post.bind (h : Post (m.bind f) R E) : Post m (fun a => Post (f a) R E) E := by
  cases m <;> exact h
theorem Post.to_bind (h : Post m (fun a => Post (f a) R E) E) : Post (m.bind f) R E := by
  cases m <;> exact h
theorem Post.imp (h : Post m Q E) (hq : ∀ a, Q a → Q' a) (he : ∀ e, E e → E' e) : Post m Q' E' := by
  cases m with
  | ok a => exact hq a h
  | err e => exact he e h
  | bad => exact h
theorem Post.ok {a : α} (h : Q a) : Post (.ok a) Q E := h
theorem Post.guard {c : Bool} (h : Post (guardR c m) Q E) : c = true ∧ Post m Q E := by
  unfold guardR at h
  cases c with
  | true => exact ⟨rfl, h⟩
  | false => exact h.elim
theorem Post.quiet (h : Post m.quiet Q E) : Post m Q E' := by
  cases m with
  | ok a => exact h
  | err e => exact h.elim
  | bad => exact h.elim
theorem bind_ok (a : α) (f : α → Res β) : (Res.ok a).bind f = f a := rfl
theorem bind_bad (f : α → Res β) : (Res.bad).bind f = .bad := rfl
theorem bind_err (e : Ex) (f : α → Res β) : (Res.err e).bind f = .err e := rfl
theorem bind_assoc {γ : Type} (m : Res α) (f : α → Res β) (g : β → Res γ) : (m.bind f).bind g = m.bind fun a => (f a).bind g := by cases m <;> rfl
theorem guard_true (m : Res α) : guardR true m = m := rfl
theorem guard_of {c : Bool} (h : c = true) (m : Res α) : guardR c m = m := by rw [h]; rfl
end

/-! ### a heap with some addresses out of sight -/
def hide (B : List Addr) (H : Hp) : Hp := fun a => if a ∈ B then none else H a
section
variable {B B' : List Addr} {H H' H1 : Hp} {a : Addr} {o : HO}
theorem hide_out (h : a ∉ B) : hide B H a = H a := if_neg h
theorem hide_in (h : a ∈ B) : hide B H a = none := if_pos h
theorem hide_some {b : Addr} (e : hide B H b = some o) : b ∉ B ∧ H b = some o := by
  by_cases h : b ∈ B
  · rw [hide_in h] at e; cases e
  · rw [hide_out h] at e; exact ⟨h, e⟩
theorem hide_same (s : Same H H') : Same (hide B H) (hide B H') := fun b o e => by
  obtain ⟨h1, h2⟩ := hide_some e
  rw [hide_out h1]; exact s b o h2
theorem hide_sub : Same (hide B H) H := fun b o e => (hide_some e).2
theorem hide_mono (h : ∀ a, a ∈ B → a ∈ B') : Same (hide B' H) (hide B H) := fun b o e => by
  obtain ⟨h1, h2⟩ := hide_some e
  rw [hide_out fun z => h1 (h b z)]; exact h2
theorem hide_upd_in (h : a ∈ B) : hide B (upd H a o) = hide B H := by
  funext b
  unfold hide
  by_cases hb : b ∈ B
  · rw [if_pos hb, if_pos hb]
  · rw [if_neg hb, if_neg hb, upd_ne]
    rintro rfl
    exact hb h
theorem hide_cons_new (h : H a = none) : hide (a :: B) H = hide B H := by
  funext b
  unfold hide
  by_cases hb : b ∈ B
  · rw [if_pos hb, if_pos (List.mem_cons_of_mem _ hb)]
  · by_cases e : b = a
    · subst e; rw [if_pos List.mem_cons_self, if_neg hb, h]
    · rw [if_neg hb, if_neg fun z => (List.mem_cons.mp z).elim e hb]
theorem same_upd {p : Addr} {o : HO} (h : H p = none) : Same H (upd H p o) := fun b x e => by
  rw [upd_ne (ne_of_none e h)]; exact e
theorem hide_nil : hide [] H = H := by funext b; exact if_neg List.not_mem_nil
end
theorem dom_same {H H' : Hp} (s : Same H H') {b : Addr} (h : H b ≠ none) : H' b ≠ none := by
  cases e : H b with
  | none => exact absurd e h
  | some o => rw [s b o e]; intro z; cases z

/-! ### what a value stands for -/
class Rp (T : Type) where
  rp : PySem.W.Frag → Hp → V → T → Prop
  mono : ∀ {K : PySem.W.Frag} {H H' : Hp} {v : V} {x : T}, Same H H' → rp K H v x → rp K H' v x
open Rp (rp)
/-- where the heap does not matter -/
class Flat (T : Type) [Rp T] : Prop where
  any : ∀ {K : PySem.W.Frag} {H H' : Hp} {v : V} {x : T}, rp K H v x → rp K H' v x
/-- n values as a tuple's places -/
inductive AV : Type 1 where
  | mk (T : Type) [Rp T] (x : T)
abbrev av {T : Type} [Rp T] (x : T) : AV := .mk T x
def AV.rp (K : PySem.W.Frag) (H : Hp) (v : V) : AV → Prop
  | @AV.mk T inst x => @Rp.rp T inst K H v x
theorem AV.mono {K : PySem.W.Frag} {H H' : Hp} {v : V} {x : AV} (s : Same H H') (h : x.rp K H v) : x.rp K H' v := by
  cases x with
  | @mk T inst y => exact @Rp.mono T inst K H H' v y s h
inductive ArgsR (K : PySem.W.Frag) (H : Hp) : List V → List AV → Prop where
  | nil : ArgsR K H [] []
  | cons {v : V} {vs : List V} {x : AV} {xs : List AV} : AV.rp K H v x → ArgsR K H vs xs → ArgsR K H (v :: vs) (x :: xs)
theorem Paired.imp2 {α β : Type} {F G : α → β → Prop} : ∀ {xs : List α} {ys : List β}, Paired F xs ys → (∀ a b, F a b → G a b) → Paired G xs ys
  | _, _, .nil, _ => .nil
  | _, _, .cons r t, f => .cons (f _ _ r) (Paired.imp2 t f)
theorem ArgsR.mono {K : PySem.W.Frag} {H H' : Hp} {vs : List V} {xs : List AV} (s : Same H H') (h : ArgsR K H vs xs) : ArgsR K H' vs xs := by
  induction h with
  | nil => exact .nil
  | cons r _ ih => exact .cons (AV.mono s r) ih
abbrev RpAll {T : Type} [Rp T] (K : PySem.W.Frag) (H : Hp) : List V → List T → Prop := Paired (Rp.rp K H)
theorem RpAll.mono {T : Type} [Rp T] {K : PySem.W.Frag} {H H' : Hp} {vs : List V} {xs : List T} (s : Same H H') (h : RpAll K H vs xs) : RpAll K H' vs xs := Paired.imp2 h fun _ _ => Rp.mono s
theorem SqT.same {K : PySem.W.Frag} {H H' : Hp} {a : Addr} {xs : List V} (e : Same H H') (h : SqT K H a xs) : SqT K H' a xs := by
  rcases h with (h | ⟨o, h⟩) | h
  · exact .inl (.inl (e _ _ h))
  · exact .inl (.inr ⟨o, e _ _ h⟩)
  · exact .inr h

instance : Rp Int where
  rp _ _ v x := v = .int x
  mono _ h := h
instance : Flat Int := ⟨fun h => h⟩
instance : Rp Bool where
  rp _ _ v x := v = .bl x
  mono _ h := h
instance : Flat Bool := ⟨fun h => h⟩
instance : Rp Str where
  rp _ _ v x := v = .str x
  mono _ h := h
instance : Flat Str := ⟨fun h => h⟩
instance : Rp Unit where
  rp _ _ v _ := v = .non
  mono _ h := h
instance : Flat Unit := ⟨fun h => h⟩
instance {T : Type} [Rp T] : Rp (Option T) where
  rp K H v x := match x with
    | none => v = .non
    | some y => rp K H v y ∧ v ≠ .non
  mono {K H H' v x} s h := by
    cases x with
    | none => exact h
    | some y => exact ⟨Rp.mono s h.1, h.2⟩
instance {T : Type} [Rp T] [Flat T] : Flat (Option T) := ⟨fun {K H H' v x} h => by
  cases x with
  | none => exact h
  | some y => exact ⟨Flat.any h.1, h.2⟩⟩
instance {T : Type} [Rp T] : Rp (List T) where
  rp K H v x := ∃ a vs, v = .ref a ∧ H a = some (.lst vs) ∧ RpAll K H vs x
  mono {K H H' v x} s h := by
    obtain ⟨a, vs, e, h1, h2⟩ := h
    exact ⟨a, vs, e, s _ _ h1, RpAll.mono s h2⟩
/-- a tuple of any length, its items of one kind -/
structure Tup (T : Type) where
  l : List T
instance {T : Type} [Rp T] : Rp (Tup T) where
  rp K H v x := ∃ a vs, v = .ref a ∧ SqT K H a vs ∧ RpAll K H vs x.l
  mono {K H H' v x} s h := by
    obtain ⟨a, vs, e, h1, h2⟩ := h
    exact ⟨a, vs, e, SqT.same s h1, RpAll.mono s h2⟩
/-- tuples with a fixed number of places: by their places -/
class Places (T : Type) where
  av : T → List AV
/-- a tuple by its places -/
def rpT {T : Type} [Places T] (K : PySem.W.Frag) (H : Hp) (v : V) (x : T) : Prop := ∃ a vs, v = .ref a ∧ SqT K H a vs ∧ ArgsR K H vs (Places.av x)
theorem rpT.mono {T : Type} [Places T] {K : PySem.W.Frag} {H H' : Hp} {v : V} {x : T} (s : Same H H') (h : rpT K H v x) : rpT K H' v x := by
  obtain ⟨a, vs, e, h1, h2⟩ := h
  exact ⟨a, vs, e, SqT.same s h1, ArgsR.mono s h2⟩
instance (priority := low) {T : Type} [Places T] : Rp T where
  rp := rpT
  mono := rpT.mono
instance {A B : Type} [Rp A] [Rp B] : Places (A × B) := ⟨fun x => [av x.1, av x.2]⟩
/-- arguments one behind the other -/
def asN : Unit → List AV := fun _ => []
def asC {T : Type} [Rp T] {A : Type} (as : A → List AV) : T × A → List AV := fun p => av p.1 :: as p.2
structure T3 (A B C : Type) where
  (a : A) (b : B) (c : C)
instance {A B C : Type} [Rp A] [Rp B] [Rp C] : Places (T3 A B C) := ⟨fun x => [av x.a, av x.b, av x.c]⟩
structure T4 (A B C D : Type) where
  (a : A) (b : B) (c : C) (d : D)
instance {A B C D : Type} [Rp A] [Rp B] [Rp C] [Rp D] : Places (T4 A B C D) := ⟨fun x => [av x.a, av x.b, av x.c, av x.d]⟩
structure T5 (A B C D E : Type) where
  (a : A) (b : B) (c : C) (d : D) (e : E)
instance {A B C D E : Type} [Rp A] [Rp B] [Rp C] [Rp D] [Rp E] : Places (T5 A B C D E) := ⟨fun x => [av x.a, av x.b, av x.c, av x.d, av x.e]⟩
/-- the law's script -/
structure Scr where
  ns : List Int
instance : Rp Scr where
  rp K H v x := ∃ a, v = .ref a ∧ SqL K H a (x.ns.map V.int)
  mono {K H H' v x} s h := by
    obtain ⟨a, e, h1⟩ := h
    exact ⟨a, e, s.seq h1⟩

/-! ### slots, states -/
inductive Slot : Type 1 where
  | non
  | val (T : Type) [Rp T] (x : T)
  | own (T : Type) [Rp T] (ao : Option Addr) (xs : List T)
inductive Rs (K : PySem.W.Frag) (Hs H : Hp) : List Slot → St → List Addr → Prop where
  | nil : Rs K Hs H [] [] []
  | non {ρ : List Slot} {σ : St} {as : List Addr} {o : Option V} : Rs K Hs H ρ σ as → Rs K Hs H (.non :: ρ) (o :: σ) as
  | val {ρ : List Slot} {σ : St} {as : List Addr} {T : Type} [Rp T] {x : T} {v : V} : rp K Hs v x → Rs K Hs H ρ σ as → Rs K Hs H (.val T x :: ρ) (some v :: σ) as
  | own {ρ : List Slot} {σ : St} {as : List Addr} {T : Type} [Rp T] {ao : Option Addr} {xs : List T} {a : Addr} {vs : List V} : (∀ b, ao = some b → b = a) → H a = some (.lst vs) → RpAll K Hs vs xs → Rs K Hs H ρ σ as →
      Rs K Hs H (.own T ao xs :: ρ) (some (.ref a) :: σ) (a :: as)
/-- the slots hold what ρ says; S: what callers keep for themselves; as: what is kept here; ads: the addresses of the kept slots -/
structure RS (K : PySem.W.Frag) (S : List Addr) (ρ : List Slot) (σ : St) (H : Hp) (as : List Addr) : Prop where
  rs : ∃ ads, Rs K (hide (S ++ as) H) H ρ σ ads ∧ ads.Nodup ∧ ∀ a ∈ ads, a ∈ as
  out : ∀ a ∈ as, a ∉ S
  dom : ∀ a ∈ S ++ as, H a ≠ none
section
variable {K : PySem.W.Frag} {S as as' : List Addr} {ρ : List Slot} {σ : St} {H H' Hs Hs' : Hp} {ads : List Addr}
theorem Rs.mono (r : Rs K Hs H ρ σ ads) (s1 : Same Hs Hs') (s2 : ∀ a ∈ ads, ∀ o, H a = some o → H' a = some o) : Rs K Hs' H' ρ σ ads := by
  induction r with
  | nil => exact .nil
  | @non ρ σ as o _ ih => exact Rs.non (o := o) (ih s2)
  | val h _ ih => exact .val (Rp.mono s1 h) (ih s2)
  | own h0 h1 h2 _ ih => exact .own h0 (s2 _ List.mem_cons_self _ h1) (RpAll.mono s1 h2) (ih fun a ha => s2 a (List.mem_cons_of_mem _ ha))
theorem Rs.length (r : Rs K Hs H ρ σ ads) : σ.length = ρ.length := by
  induction r with
  | nil => rfl
  | non _ ih => simp [ih]
  | val _ _ ih => simp [ih]
  | own _ _ _ _ ih => simp [ih]
theorem RS.mono (r : RS K S ρ σ H as) (s : Same H H') : RS K S ρ σ H' as := by
  obtain ⟨⟨ads, h1, h2, h3⟩, h4, h5⟩ := r
  exact ⟨⟨ads, h1.mono (hide_same s) fun a _ o e => s a o e, h2, h3⟩, h4, fun a ha => dom_same s (h5 a ha)⟩
theorem Rs.val_at (r : Rs K Hs H ρ σ ads) : ∀ {i : Nat} {T : Type} {inst : Rp T} {x : T}, ρ[i]? = some (@Slot.val T inst x) → ∃ v, σ[i]? = some (some v) ∧ rp K Hs v x := by
  induction r with
  | nil => intro i T inst x e; cases e
  | non _ ih =>
    intro i T inst x e
    cases i with
    | zero => cases e
    | succ i => exact ih e
  | val h _ ih =>
    intro i T inst x e
    cases i with
    | zero => cases e; exact ⟨_, rfl, h⟩
    | succ i => exact ih e
  | own _ _ _ _ ih =>
    intro i T inst x e
    cases i with
    | zero => cases e
    | succ i => exact ih e
theorem Rs.own_at (r : Rs K Hs H ρ σ ads) : ∀ {i : Nat} {T : Type} {inst : Rp T} {ao : Option Addr} {xs : List T}, ρ[i]? = some (@Slot.own T inst ao xs) →
    ∃ a vs, σ[i]? = some (some (.ref a)) ∧ a ∈ ads ∧ H a = some (.lst vs) ∧ RpAll K Hs vs xs ∧ ∀ b, ao = some b → b = a := by
  induction r with
  | nil => intro i T inst ao x e; cases e
  | non _ ih =>
    intro i T inst ao x e
    cases i with
    | zero => cases e
    | succ i => exact ih e
  | val h _ ih =>
    intro i T inst ao x e
    cases i with
    | zero => cases e
    | succ i => exact ih e
  | own h0 h1 h2 _ ih =>
    intro i T inst ao x e
    cases i with
    | zero => cases e; exact ⟨_, _, rfl, List.mem_cons_self, h1, h2, h0⟩
    | succ i =>
      obtain ⟨a, vs, e1, e2, e3, e4, e5⟩ := ih e
      exact ⟨a, vs, e1, List.mem_cons_of_mem _ e2, e3, e4, e5⟩
end

/-- what stands behind: all that was is as it was but what was kept; what is kept is new or was kept -/
structure Ext (as : List Addr) (H : Hp) (as' : List Addr) (H' : Hp) : Prop where
  same : ∀ b o, H b = some o → b ∉ as → H' b = some o
  dom : ∀ b, H b ≠ none → H' b ≠ none
  own : ∀ a ∈ as', a ∈ as ∨ H a = none
section
variable {as as1 as2 : List Addr} {H H1 H2 : Hp}
theorem Ext.of_same (s : Same H H1) : Ext as H as H1 := ⟨fun b o e _ => s b o e, fun b h => dom_same s h, fun a h => .inl h⟩
theorem Ext.refl : Ext as H as H := Ext.of_same (Same.refl H)
theorem Ext.trans (a : Ext as H as1 H1) (b : Ext as1 H1 as2 H2) : Ext as H as2 H2 where
  same c o e h := b.same c o (a.same c o e h) fun z => by
    rcases a.own c z with q | q
    · exact h q
    · rw [q] at e; cases e
  dom c h := b.dom c (a.dom c h)
  own c h := by
    rcases b.own c h with q | q
    · exact a.own c q
    · refine .inr ?_
      cases e : H c with
      | none => rfl
      | some o => exact absurd q (a.dom c (by rw [e]; intro z; cases z))
theorem Ext.nil_same (e : Ext [] H as1 H1) : Same H H1 := fun b o h => e.same b o h List.not_mem_nil
/-- what is in sight stays in sight -/
theorem Ext.sight {S : List Addr} (e : Ext as H as1 H1) (hS : ∀ a ∈ as1, H a = none → True) : Same (hide (S ++ as) H) (hide (S ++ as1) H1) := fun b o h => by
  obtain ⟨h1, h2⟩ := hide_some h
  have n1 : b ∉ S := fun z => h1 (List.mem_append_left _ z)
  have n2 : b ∉ as := fun z => h1 (List.mem_append_right _ z)
  have n3 : b ∉ as1 := fun z => by
    rcases e.own b z with q | q
    · exact n2 q
    · rw [q] at h2; cases h2
  rw [hide_out fun z => (List.mem_append.mp z).elim n1 n3]
  exact e.same b o h2 n2
end
end Py

set_option Elab.async false
set_option linter.all false
set_option maxRecDepth 100000
set_option maxHeartbeats 1000000
/-! Py, part B: judgements of expressions, tests, arguments; the rules. -/
namespace Py
open PySem PySem.Spec L2
open Rp (rp)

structure CtxOk (X : Cx) (W : WX) (lv : Nat) : Prop where
  calm : X.calm = true
  nd : X.N.Nodup
  tk : Takes X W
  po : PassesOwn (model X.prog X.w) X.A X.env X.xe
  room : Room lv X.A

/-- an own error, as it stands -/
def ExR (K : PySem.W.Frag) (H : Hp) (c : Value) (d : Option Addr) (e : Ex) : Prop :=
  c = .ref (He.ga K (Str.ofString e.cls)) ∧ ∃ dx fs, d = some dx ∧ H dx = some (.xd fs) ∧ Paired (fun (p : Str × V) (q : String × PyData) => p.1 = Str.ofString q.1 ∧ Dp K H p.2 q.2) fs e.fs
def ErrX (X : Cx) (W : WX) (S own : List Addr) (σ : St) (H : Hp) (e : Ex) : Prop := ∀ H' c d, Same H H' → ExR X.K (hide (S ++ own) H') c d e → W c d σ H'
theorem ErrX.mono {X : Cx} {W : WX} {S own : List Addr} {σ : St} {H H1 : Hp} {e : Ex} (h : ErrX X W S own σ H e) (s : Same H H1) : ErrX X W S own σ H1 e := fun H' c d s1 x => h H' c d (s.trans s1) x

/-- what is in sight of a value: all that is kept is out of sight, or only what the callers keep -/
def reg (g : Bool) (S own : List Addr) : List Addr := if g then S ++ own else S
theorem reg_sub {g : Bool} {S own : List Addr} : ∀ a, a ∈ reg g S own → a ∈ S ++ own := fun a h => by
  cases g with
  | true => exact h
  | false => exact List.mem_append_left _ h
theorem S_sub_reg {g : Bool} {S own : List Addr} : ∀ a, a ∈ S → a ∈ reg g S own := fun a h => by
  cases g with
  | true => exact List.mem_append_left _ h
  | false => exact h

abbrev EGp (X : Cx) (W : WX) (g : Bool) (ρ : List Slot) (t : TE) {T : Type} [Rp T] (m : Res T) : Prop :=
  ∀ (S own : List Addr) (σ : St) (H : Hp) (Q : VK), RS X.K S ρ σ H own → Post m (fun x => ∀ H' v, Same H H' → rp X.K (hide (reg g S own) H') v x → Q v H') (ErrX X W S own σ H) → t σ H Q
structure EG (X : Cx) (W : WX) (g : Bool) (ρ : List Slot) (e : Expr) {T : Type} [Rp T] (m : Res T) : Prop where
  ex : ∃ t, PE X e t ∧ EGp X W g ρ t m
abbrev EJ (X : Cx) (W : WX) (ρ : List Slot) (e : Expr) {T : Type} [Rp T] (m : Res T) : Prop := EG X W true ρ e m
abbrev EB (X : Cx) (W : WX) (ρ : List Slot) (e : Expr) {T : Type} [Rp T] (m : Res T) : Prop := EG X W false ρ e m

abbrev TJp (X : Cx) (W : WX) (ρ : List Slot) (t : TT) (m : Res Bool) : Prop :=
  ∀ (S own : List Addr) (σ : St) (H : Hp) (Q : Bool → Hp → Prop), RS X.K S ρ σ H own → Post m (fun b => ∀ H', Same H H' → Q b H') (ErrX X W S own σ H) → t σ H Q
structure TJ (X : Cx) (W : WX) (ρ : List Slot) (e : Expr) (m : Res Bool) : Prop where
  ex : ∃ t, PT X e t ∧ TJp X W ρ t m
structure TWJ (X : Cx) (W : WX) (ρ : List Slot) (e : Expr) (m : Res Bool) : Prop where
  ex : ∃ t, PW X e t ∧ TJp X W ρ t m

/-- a comparison -/
structure CJ (X : Cx) (W : WX) (ρ : List Slot) (op : CmpOp) (a b : Expr) (m : Res Bool) : Prop where
  ex : ∃ (r : R2) (ta tb : TE), OpR X (compareOp op) r ∧ behindInMarks op b = false ∧ PE X a ta ∧ PE X b tb ∧
    ∀ (S own : List Addr) (σ : St) (H : Hp) (Q : Bool → Hp → Prop) (R : V → Hp → Prop), RS X.K S ρ σ H own → Post m (fun x => ∀ H', Same H H' → Q x H') (ErrX X W S own σ H) → (∀ z H', Q z H' → R (.bl z) H') → tOp r ta tb σ H R
abbrev AJp (X : Cx) (W : WX) (g : Bool) (ρ : List Slot) (t : TA) {A R : Type} (as : A → List AV) (k : A → Res R) (m : Res R) : Prop :=
  ∀ (S own : List Addr) (σ : St) (H : Hp) (Q : List V → Hp → Prop) (P : R → Prop) (E : Ex → Prop), RS X.K S ρ σ H own → (∀ e, E e → ErrX X W S own σ H e) → Post m P E →
    (∀ x vs H', Same H H' → ArgsR X.K (hide (reg g S own) H') vs (as x) → Post (k x) P E → Q vs H') → t σ H Q
/-- arguments, evaluated ahead of k -/
structure AJ (X : Cx) (W : WX) (g : Bool) (ρ : List Slot) (es : List Expr) {A R : Type} (as : A → List AV) (k : A → Res R) (m : Res R) : Prop where
  ex : ∃ t, PA X es t ∧ AJp X W g ρ t as k m

section
variable {X : Cx} {W : WX} {g : Bool} {ρ : List Slot} {T A B C R : Type} [Rp T] [Rp A] [Rp B] [Rp C] [Rp R] {a b e : Expr} {pos : Pos} {lv : Nat}
theorem EG.borrow {m : Res T} (h : EG X W true ρ e m) : EG X W false ρ e m := by
  obtain ⟨t, p, q⟩ := h.ex
  refine ⟨t, p, fun S own σ H Q rs hp => q S own σ H Q rs (hp.imp (fun x hx H' v s r => hx H' v s (Rp.mono (hide_mono fun z hz => List.mem_append_left _ hz) r)) fun _ z => z)⟩
theorem EG.of_eq {m m' : Res T} (h : EG X W g ρ e m) (z : m = m') : EG X W g ρ e m' := z ▸ h
/-- a flat value is in sight everywhere -/
theorem EG.flat [Flat T] {g' : Bool} {m : Res T} (h : EG X W g ρ e m) : EG X W g' ρ e m := by
  obtain ⟨t, p, q⟩ := h.ex
  exact ⟨t, p, fun S own σ H Q rs hp => q S own σ H Q rs (hp.imp (fun x hx H' v s r => hx H' v s (Flat.any r)) fun _ z => z)⟩

/-! ### two parts, one part -/
theorem one_run {ga : Bool} {ta : TE} {ma : Res A} {f : A → Res C} {P : C → Prop} {S own : List Addr} {σ : St} {H : Hp} {R' : V → Hp → Prop} (ha : EGp X W ga ρ ta ma) (rs : RS X.K S ρ σ H own)
    (h : Post (ma.bind f) P (ErrX X W S own σ H)) (k : ∀ x v H', Same H H' → rp X.K (hide (reg ga S own) H') v x → Post (f x) P (ErrX X W S own σ H) → R' v H') : ta σ H R' :=
  ha S own σ H _ rs (h.bind.imp (fun x hx H1 v s1 r1 => k x v H1 s1 r1 hx) fun _ z => z)
theorem two_run {ga gb : Bool} {ta tb : TE} {ma : Res A} {mb : Res B} {f : A → B → Res C} {P : C → Prop} {S own : List Addr} {σ : St} {H : Hp} {R' : V → V → Hp → Prop} (ha : EGp X W ga ρ ta ma) (hb : EGp X W gb ρ tb mb) (rs : RS X.K S ρ σ H own)
    (h : Post (ma.bind fun x => mb.bind (f x)) P (ErrX X W S own σ H))
    (k : ∀ x y v u H', Same H H' → rp X.K (hide (reg ga S own) H') v x → rp X.K (hide (reg gb S own) H') u y → Post (f x y) P (ErrX X W S own σ H) → R' v u H') : ta σ H fun v H1 => tb σ H1 fun u H2 => R' v u H2 :=
  ha S own σ H _ rs (h.bind.imp (fun x hx H1 v s1 r1 => hb S own σ H1 _ (rs.mono s1) (hx.bind.imp (fun y hy H2 u s2 r2 => k x y v u H2 (s1.trans s2) (Rp.mono (hide_same s2) r1) r2 hy) fun _ z => z.mono s1)) fun _ z => z)

/-- an operator on two parts whose reading r leaves the heap and hands back a flat value -/
theorem e_binR {op : Operator} {r : R2} {f : A → B → Res C} [Flat C] {ma : Res A} {mb : Res B} (ho : OpR X (binaryOp op) r) (ha : EG X W true ρ a ma) (hb : EG X W true ρ b mb)
    (hr : ∀ (B1 B2 : List Addr) (H : Hp) (x : A) (y : B) (v u : V) (Q : VK), rp X.K (hide B1 H) v x → rp X.K (hide B2 H) u y → Post (f x y) (fun z => ∀ w', rp X.K H w' z → Q w' H) (fun _ => True) → r v u H Q)
    (hne : ∀ x y e, f x y ≠ .err e) : EG X W g ρ (.BinOp a op b pos) (ma.bind fun x => mb.bind (f x)) := by
  obtain ⟨ta, pa, qa⟩ := ha.ex
  obtain ⟨tb, pb, qb⟩ := hb.ex
  refine ⟨_, pe_op ho pa pb, fun S own σ H Q rs h => two_run qa qb rs h fun x y v u H2 s r1 r2 hp => hr _ _ H2 x y v u Q r1 r2 (hp.imp (fun z hz w' rw' => hz H2 w' s (Flat.any rw')) fun _ _ => trivial)⟩
theorem e_cmpR {op : CmpOp} {r : R2} {f : A → B → Res Bool} {ga gb : Bool} {ma : Res A} {mb : Res B} (ho : OpR X (compareOp op) r) (hm : behindInMarks op b = false) (ha : EG X W ga ρ a ma) (hb : EG X W gb ρ b mb)
    (hr : ∀ (B1 B2 : List Addr) (H : Hp) (x : A) (y : B) (v u : V) (Q : VK), rp X.K (hide B1 H) v x → rp X.K (hide B2 H) u y → Post (f x y) (fun z => Q (.bl z) H) (fun _ => True) → r v u H Q) :
    CJ X W ρ op a b (ma.bind fun x => mb.bind (f x)) := by
  obtain ⟨ta, pa, qa⟩ := ha.ex
  obtain ⟨tb, pb, qb⟩ := hb.ex
  refine ⟨r, ta, tb, ho, hm, pa, pb, fun S own σ H Q R rs h hR => two_run qa qb rs h fun x y v u H2 s r1 r2 hp => hr _ _ H2 x y v u R r1 r2 (hp.imp (fun z hz => hR z H2 (hz H2 s)) fun _ _ => trivial)⟩
theorem CJ.v {op : CmpOp} {m : Res Bool} (h : CJ X W ρ op a b m) : EG X W g ρ (.Compare a [op] [b] pos) m := by
  obtain ⟨r, ta, tb, ho, hm, pa, pb, q⟩ := h.ex
  exact ⟨_, pe_cmpR ho pa pb hm, fun S own σ H Q rs h => q S own σ H (fun z H' => Q (.bl z) H') Q rs (h.imp (fun x hx H' s => hx H' _ s rfl) fun _ z => z) fun z H' hz => hz⟩
theorem CJ.t {op : CmpOp} {m : Res Bool} (h : CJ X W ρ op a b m) : TJ X W ρ (.Compare a [op] [b] pos) m := by
  obtain ⟨r, ta, tb, ho, hm, pa, pb, q⟩ := h.ex
  exact ⟨_, pt_cmpR ho pa pb hm, fun S own σ H Q rs h => q S own σ H Q _ rs h fun z H' hz => ⟨z, rfl, hz⟩⟩
theorem CJ.of_eq {op : CmpOp} {m m' : Res Bool} (h : CJ X W ρ op a b m) (z : m = m') : CJ X W ρ op a b m' := z ▸ h

/-! ### names, constants -/
theorem e_var (i : Nat) {x : Str} {v : T} (hr : ρ[i]? = some (Slot.val T v) := by rfl) (hN : X.N[i]? = some x := by rfl) (hv : Vis X.env.scope x := by first | exact Or.inl rfl | exact Or.inr (Or.inl rfl) | exact Or.inr (Or.inr rfl))
    (hd : (x == ("__debug__" : Str)) = false := by decide) (hcd : (x == ("__classdict__" : Str)) = false := by decide) : EG X W g ρ (.Name x pos) (.ok v) := by
  refine ⟨_, pe_var hN hv hd hcd, fun S own σ H Q rs h => ?_⟩
  obtain ⟨ads, r, _, _⟩ := rs.rs
  obtain ⟨u, e, q⟩ := r.val_at hr
  exact ⟨u, e, h H u (Same.refl H) (Rp.mono (hide_mono reg_sub) q)⟩
/-- a kept list, lent -/
theorem e_own (i : Nat) {x : Str} {ao : Option Addr} {xs : List T} (hr : ρ[i]? = some (Slot.own T ao xs) := by rfl) (hN : X.N[i]? = some x := by rfl) (hv : Vis X.env.scope x := by first | exact Or.inl rfl | exact Or.inr (Or.inl rfl) | exact Or.inr (Or.inr rfl))
    (hd : (x == ("__debug__" : Str)) = false := by decide) (hcd : (x == ("__classdict__" : Str)) = false := by decide) : EG X W false ρ (.Name x pos) (.ok xs) := by
  refine ⟨_, pe_var hN hv hd hcd, fun S own σ H Q rs h => ?_⟩
  obtain ⟨ads, r, _, h3⟩ := rs.rs
  obtain ⟨a, vs, e, e1, e2, e3, _⟩ := r.own_at hr
  refine ⟨_, e, h H (.ref a) (Same.refl H) ⟨a, vs, rfl, ?_, RpAll.mono (hide_mono fun z hz => List.mem_append_left _ hz) e3⟩⟩
  show hide S H a = _
  rw [hide_out (rs.out a (h3 a e1))]
  exact e2
theorem e_const {v : V} {x : T} {e : Expr} (p : PE X e (tC v)) (h : ∀ H, rp X.K H v x) : EG X W g ρ e (.ok x) :=
  ⟨_, p, fun S own σ H Q rs q => q H v (Same.refl H) (h _)⟩
theorem e_int {i : Int} {j} : EG X W g ρ (.Constant (.int i) j pos) (.ok i) := e_const pe_int fun _ => rfl
theorem e_bool {i : Bool} {j} : EG X W g ρ (.Constant (.bool i) j pos) (.ok i) := e_const pe_bl fun _ => rfl
theorem e_str {i : Str} {j} : EG X W g ρ (.Constant (.str i) j pos) (.ok i) := e_const pe_str fun _ => rfl
theorem e_none {j} : EG X W g ρ (.Constant .none j pos) (.ok ()) := e_const pe_non fun _ => rfl
theorem e_gstr {x z : Str} (hm : ∃ t, X.mg x = some (.str z t)) (hg : Gl X x := by rfl) (hd : (x == ("__debug__" : Str)) = false := by decide) : EG X W g ρ (.Name x pos) (.ok z) := by
  obtain ⟨t, e⟩ := hm
  exact e_const (v := .str z) (pe_glob hg e ⟨t, rfl⟩ hd) fun _ => rfl
theorem e_gint {x : Str} {z : Int} (hm : ∃ t, X.mg x = some (.int z t)) (hg : Gl X x := by rfl) (hd : (x == ("__debug__" : Str)) = false := by decide) : EG X W g ρ (.Name x pos) (.ok z) := by
  obtain ⟨t, e⟩ := hm
  exact e_const (v := .int z) (pe_glob hg e ⟨t, rfl⟩ hd) fun _ => rfl
/-- a tuple of the module's top -/
theorem e_gtup {x : Str} {vs : List V} {z : Tup T} (hm : X.mg x = some (.ref (He.ga X.K x))) (hs : ∀ H, SqT X.K H (He.ga X.K x) vs) (hz : ∀ H, RpAll X.K H vs z.l) (hg : Gl X x := by rfl) (hd : (x == ("__debug__" : Str)) = false := by decide) : EG X W g ρ (.Name x pos) (.ok z) :=
  e_const (v := .ref (He.ga X.K x)) (pe_glob hg hm rfl hd) fun H => ⟨_, vs, rfl, hs H, hz H⟩

/-! ### whole numbers -/
/-- a product that the model takes -/
def mulOk (x y : Int) : Bool := (decide (-(2 ^ 64) < x) && decide (x < 2 ^ 64)) || (decide (-(2 ^ 64) < y) && decide (y < 2 ^ 64)) || decide (x.natAbs.log2 + y.natAbs.log2 < 1000000)
def mulM (x y : Int) : Res Int := guardR (mulOk x y) (.ok (x * y))
theorem op_mulA : OpR X (binaryOp .Mult) (rI (fun i j => mulOk i j = true) fun i j => .int (i * j)) := by
  have o : OpR X (binaryOp .Mult) (fun x y H Q => rI CMul (fun i j => .int (i * j)) x y H Q ∨ rI CMulW (fun i j => .int (i * j)) x y H Q) := op_mul.or op_mulW
  intro pins s σ H x y v u Q I rx ry hr
  refine o pins s σ H x y v u Q I rx ry ?_
  obtain ⟨i, j, e1, e2, c, q⟩ := hr
  unfold mulOk at c
  simp only [Bool.or_eq_true, Bool.and_eq_true, decide_eq_true_eq] at c
  rcases c with (c | c) | c
  · exact .inl ⟨i, j, e1, e2, .inl c, q⟩
  · exact .inl ⟨i, j, e1, e2, .inr c, q⟩
  · exact .inr ⟨i, j, e1, e2, c, q⟩
theorem e_add {ma mb : Res Int} (ha : EG X W true ρ a ma) (hb : EG X W true ρ b mb) : EG X W g ρ (.BinOp a .Add b pos) (ma.bind fun x => mb.bind fun y => .ok (x + y)) :=
  e_binR (f := fun x y => .ok (x + y)) op_add ha hb (fun _ _ H x y v u Q r1 r2 h => ⟨x, y, r1, r2, h _ rfl⟩) (fun _ _ _ h => nomatch h)
theorem e_sub {ma mb : Res Int} (ha : EG X W true ρ a ma) (hb : EG X W true ρ b mb) : EG X W g ρ (.BinOp a .Sub b pos) (ma.bind fun x => mb.bind fun y => .ok (x - y)) :=
  e_binR (f := fun x y => .ok (x - y)) op_sub ha hb (fun _ _ H x y v u Q r1 r2 h => ⟨x, y, r1, r2, h _ rfl⟩) (fun _ _ _ h => nomatch h)
theorem guard_ne {α : Type} {c : Bool} {x : α} (e : Ex) : guardR c (.ok x) ≠ Res.err e := by
  unfold guardR
  split <;> intro h <;> cases h
theorem e_mul {ma mb : Res Int} (ha : EG X W true ρ a ma) (hb : EG X W true ρ b mb) : EG X W g ρ (.BinOp a .Mult b pos) (ma.bind fun x => mb.bind fun y => mulM x y) :=
  e_binR (f := mulM) op_mulA ha hb (fun _ _ H x y v u Q r1 r2 h => ⟨x, y, r1, r2, h.guard.1, h.guard.2 _ rfl⟩) (fun _ _ e => guard_ne e)
/-- floor division by what is not 0 and of at most 9000 bits -/
def divOk (y : Int) : Bool := decide (y ≠ 0) && decide (y.natAbs.log2 < 9000)
def divM (x y : Int) : Res Int := guardR (divOk y) (.ok (x.fdiv y))
theorem op_fdivA : OpR X (binaryOp .FloorDiv) (rI (fun _ j => divOk j = true) fun i j => .int (i.fdiv j)) := opI fun i j _ _ _ _ _ hc q => by
  unfold divOk at hc
  simp only [Bool.and_eq_true, decide_eq_true_eq] at hc
  exact PyProof.Rows.floordiv_int hc.1 q (.inl (PyProof.noPylong_of_log2 hc.2))
theorem e_fdiv {ma mb : Res Int} (ha : EG X W true ρ a ma) (hb : EG X W true ρ b mb) : EG X W g ρ (.BinOp a .FloorDiv b pos) (ma.bind fun x => mb.bind fun y => divM x y) :=
  e_binR (f := divM) op_fdivA ha hb (fun _ _ H x y v u Q r1 r2 h => ⟨x, y, r1, r2, h.guard.1, h.guard.2 _ rfl⟩) (fun _ _ e => guard_ne e)
def modM (x y : Int) : Res Int := guardR (decide (y ≠ 0)) (.ok (x.fmod y))
theorem e_mod {ma mb : Res Int} (ha : EG X W true ρ a ma) (hb : EG X W true ρ b mb) : EG X W g ρ (.BinOp a .Mod b pos) (ma.bind fun x => mb.bind fun y => modM x y) :=
  e_binR (f := modM) op_modN ha hb (fun _ _ H x y v u Q r1 r2 h => ⟨x, y, r1, r2, of_decide_eq_true h.guard.1, h.guard.2 _ rfl⟩) (fun _ _ e => guard_ne e)
def powM (x y : Int) : Res Int := guardR (decide (0 ≤ y) && (decide (y ≤ 1000000) && decide (x.natAbs < 2 ^ 64))) (.ok (x ^ y.toNat))
theorem e_pow {ma mb : Res Int} (ha : EG X W true ρ a ma) (hb : EG X W true ρ b mb) : EG X W g ρ (.BinOp a .Pow b pos) (ma.bind fun x => mb.bind fun y => powM x y) :=
  e_binR (f := powM) op_pow ha hb (fun _ _ H x y v u Q r1 r2 h => ⟨x, y, r1, r2, by
    have c := h.guard.1
    simp only [Bool.and_eq_true, decide_eq_true_eq] at c
    exact c, h.guard.2 _ rfl⟩) (fun _ _ e => guard_ne e)
theorem e_unR {op : UnaryOp} {r : V → Hp → VK → Prop} {f : A → Res C} [Flat C] {ma : Res A} (ho : UnR X (unaryOp op) r) (ha : EG X W true ρ a ma)
    (hr : ∀ (B1 : List Addr) (H : Hp) (x : A) (v : V) (Q : VK), rp X.K (hide B1 H) v x → Post (f x) (fun z => ∀ w', rp X.K H w' z → Q w' H) (fun _ => True) → r v H Q) : EG X W g ρ (.UnaryOp op a pos) (ma.bind f) := by
  obtain ⟨ta, pa, qa⟩ := ha.ex
  refine ⟨_, pe_un ho pa, fun S own σ H Q rs h => one_run (R' := fun v H2 => r v H2 Q) qa rs h fun x v H2 s r1 hp => hr _ H2 x v Q r1 (hp.imp (fun z hz w' rw' => hz H2 w' s (Flat.any rw')) fun _ _ => trivial)⟩
theorem e_neg {ma : Res Int} (ha : EG X W true ρ a ma) : EG X W g ρ (.UnaryOp .USub a pos) (ma.bind fun x => .ok (-x)) :=
  e_unR (f := fun x => .ok (-x)) un_neg ha (fun _ H x v Q r1 h => ⟨x, r1, h _ rfl⟩)

/-! ### comparisons -/
theorem e_lt {ma mb : Res Int} (ha : EG X W true ρ a ma) (hb : EG X W true ρ b mb) : CJ X W ρ .Lt a b (ma.bind fun x => mb.bind fun y => .ok (decide (x < y))) :=
  e_cmpR (f := fun x y => .ok (decide (x < y))) op_lt (nomark _) ha hb (fun _ _ H x y v u Q r1 r2 h => ⟨x, y, r1, r2, h⟩)
theorem e_le {ma mb : Res Int} (ha : EG X W true ρ a ma) (hb : EG X W true ρ b mb) : CJ X W ρ .LtE a b (ma.bind fun x => mb.bind fun y => .ok (decide (x ≤ y))) :=
  e_cmpR (f := fun x y => .ok (decide (x ≤ y))) op_le (nomark _) ha hb (fun _ _ H x y v u Q r1 r2 h => ⟨x, y, r1, r2, h⟩)
theorem e_gt {ma mb : Res Int} (ha : EG X W true ρ a ma) (hb : EG X W true ρ b mb) : CJ X W ρ .Gt a b (ma.bind fun x => mb.bind fun y => .ok (decide (y < x))) :=
  e_cmpR (f := fun x y => .ok (decide (y < x))) op_gt (nomark _) ha hb (fun _ _ H x y v u Q r1 r2 h => ⟨x, y, r1, r2, h⟩)
theorem e_ge {ma mb : Res Int} (ha : EG X W true ρ a ma) (hb : EG X W true ρ b mb) : CJ X W ρ .GtE a b (ma.bind fun x => mb.bind fun y => .ok (decide (y ≤ x))) :=
  e_cmpR (f := fun x y => .ok (decide (y ≤ x))) op_ge (nomark _) ha hb (fun _ _ H x y v u Q r1 r2 h => ⟨x, y, r1, r2, h⟩)
/-- kinds whose values are compared by what they are -/
class Scal (T : Type) [Rp T] [DecidableEq T] where
  toV : T → V
  sc : ∀ x y : T, scal (toV x) (toV y) = true
  rel : ∀ {K : PySem.W.Frag} {H : Hp} {v : V} {x : T}, rp K H v x → v = toV x
  inj : ∀ x y : T, toV x = toV y → x = y
instance : Scal Int := { toV := .int, sc := fun _ _ => rfl, rel := fun h => h, inj := fun _ _ h => V.int.inj h }
instance : Scal Bool := { toV := .bl, sc := fun _ _ => rfl, rel := fun h => h, inj := fun _ _ h => V.bl.inj h }
instance : Scal Str := { toV := .str, sc := fun _ _ => rfl, rel := fun h => h, inj := fun _ _ h => V.str.inj h }
theorem Scal.dec {T : Type} [Rp T] [DecidableEq T] [Scal T] (x y : T) : decide (Scal.toV x = Scal.toV y) = decide (x = y) := by
  by_cases h : x = y
  · rw [h, decide_eq_true rfl, decide_eq_true rfl]
  · rw [decide_eq_false h, decide_eq_false fun z => h (Scal.inj x y z)]
theorem e_eq [DecidableEq T] [Scal T] {ma mb : Res T} (ha : EG X W true ρ a ma) (hb : EG X W true ρ b mb) : CJ X W ρ .Eq a b (ma.bind fun x => mb.bind fun y => .ok (decide (x = y))) :=
  e_cmpR (f := fun x y => .ok (decide (x = y))) op_eq (nomark _) ha hb (fun _ _ H x y v u Q r1 r2 h => by
    rw [Scal.rel r1, Scal.rel r2]
    refine ⟨Scal.sc x y, ?_⟩
    rw [Scal.dec]
    exact h)
theorem e_ne [DecidableEq T] [Scal T] {ma mb : Res T} (ha : EG X W true ρ a ma) (hb : EG X W true ρ b mb) : CJ X W ρ .NotEq a b (ma.bind fun x => mb.bind fun y => .ok (!decide (x = y))) :=
  e_cmpR (f := fun x y => .ok (!decide (x = y))) op_ne (nomark _) ha hb (fun _ _ H x y v u Q r1 r2 h => by
    rw [Scal.rel r1, Scal.rel r2]
    refine ⟨Scal.sc x y, ?_⟩
    rw [Scal.dec]
    exact h)

/-! ### tests, and, or, not, if .. else -/
theorem t_val {m : Res Bool} (h : EG X W true ρ e m) (he : ∀ whole, isTrue e X.env whole = (do let v ← whole; standAt e.pos; holding [v] (truthy v)) := by intro _; rfl) : TJ X W ρ e m := by
  obtain ⟨t, p, q⟩ := h.ex
  refine ⟨_, pt_val p he, fun S own σ H Q rs hp => q S own σ H _ rs (hp.imp (fun x hx H' v s r => ⟨x, r, hx H' s⟩) fun _ z => z)⟩
theorem t_not {m : Res Bool} (h : TJ X W ρ a m) : TJ X W ρ (.UnaryOp .Not a pos) (m.bind fun b => .ok (!b)) := by
  obtain ⟨t, p, q⟩ := h.ex
  refine ⟨_, pt_not p, fun S own σ H Q rs hp => q S own σ H _ rs (hp.bind.imp (fun x hx H' s => hx H' s) fun _ z => z)⟩
theorem tw_and1 {m : Res Bool} (h : TJ X W ρ a m) : TWJ X W ρ (.BoolOp .And [a] pos) m := by
  obtain ⟨t, p, q⟩ := h.ex
  exact ⟨_, pw_and1 p, q⟩
theorem tw_or1 {m : Res Bool} (h : TJ X W ρ a m) : TWJ X W ρ (.BoolOp .Or [a] pos) m := by
  obtain ⟨t, p, q⟩ := h.ex
  exact ⟨_, pw_or1 p, q⟩
def andM (m n : Res Bool) : Res Bool := m.bind fun b => if b then n else .ok false
def orM (m n : Res Bool) : Res Bool := m.bind fun b => if b then .ok true else n
theorem andM_ok (x y : Bool) : andM (.ok x) (.ok y) = .ok (x && y) := by cases x <;> rfl
theorem orM_ok (x y : Bool) : orM (.ok x) (.ok y) = .ok (x || y) := by cases x <;> rfl
theorem and_run {ta tb : TT} {m n : Res Bool} {S own : List Addr} {σ : St} {H : Hp} {Q : Bool → Hp → Prop} (qa : TJp X W ρ ta m) (qb : TJp X W ρ tb n) (rs : RS X.K S ρ σ H own) (hp : Post (andM m n) (fun b => ∀ H', Same H H' → Q b H') (ErrX X W S own σ H)) : tAnd ta tb σ H Q :=
  qa S own σ H _ rs (hp.bind.imp (fun x hx H1 s => by
    cases x with
    | true =>
      show if true = true then _ else _
      rw [if_pos rfl]
      exact qb S own σ H1 Q (rs.mono s) (Post.imp (show Post n _ _ from hx) (fun y hy H2 s2 => hy H2 (s.trans s2)) fun _ z => z.mono s)
    | false =>
      show if false = true then _ else _
      rw [if_neg Bool.false_ne_true]
      exact hx H1 s) fun _ z => z)
theorem or_run {ta tb : TT} {m n : Res Bool} {S own : List Addr} {σ : St} {H : Hp} {Q : Bool → Hp → Prop} (qa : TJp X W ρ ta m) (qb : TJp X W ρ tb n) (rs : RS X.K S ρ σ H own) (hp : Post (orM m n) (fun b => ∀ H', Same H H' → Q b H') (ErrX X W S own σ H)) : tOr ta tb σ H Q :=
  qa S own σ H _ rs (hp.bind.imp (fun x hx H1 s => by
    cases x with
    | false =>
      show if false = true then _ else _
      rw [if_neg Bool.false_ne_true]
      exact qb S own σ H1 Q (rs.mono s) (Post.imp (show Post n _ _ from hx) (fun y hy H2 s2 => hy H2 (s.trans s2)) fun _ z => z.mono s)
    | true =>
      show if true = true then _ else _
      rw [if_pos rfl]
      exact hx H1 s) fun _ z => z)
theorem tw_and {m n : Res Bool} {rest : List Expr} (h : TJ X W ρ a m) (h2 : TWJ X W ρ (.BoolOp .And (b :: rest) pos) n) : TWJ X W ρ (.BoolOp .And (a :: b :: rest) pos) (andM m n) := by
  obtain ⟨ta, pa, qa⟩ := h.ex
  obtain ⟨tb, pb, qb⟩ := h2.ex
  exact ⟨_, pw_and pa pb, fun S own σ H Q rs hp => and_run qa qb rs hp⟩
theorem tw_or {m n : Res Bool} {rest : List Expr} (h : TJ X W ρ a m) (h2 : TWJ X W ρ (.BoolOp .Or (b :: rest) pos) n) : TWJ X W ρ (.BoolOp .Or (a :: b :: rest) pos) (orM m n) := by
  obtain ⟨ta, pa, qa⟩ := h.ex
  obtain ⟨tb, pb, qb⟩ := h2.ex
  exact ⟨_, pw_or pa pb, fun S own σ H Q rs hp => or_run qa qb rs hp⟩
theorem TWJ.pt {m : Res Bool} (h : TWJ X W ρ e m) : TJ X W ρ e m := by
  obtain ⟨t, p, q⟩ := h.ex
  exact ⟨t, PW.pt p, q⟩
theorem e_and1 {op} {m : Res Bool} (h : EG X W true ρ a m) : EG X W g ρ (.BoolOp op [a] pos) m := by
  obtain ⟨t, p, q⟩ := (h.flat (g' := g)).ex
  exact ⟨_, pe_one p, q⟩
theorem e_and {m n : Res Bool} {rest : List Expr} (h : EG X W true ρ a m) (h2 : EG X W true ρ (.BoolOp .And (b :: rest) pos) n) : EG X W g ρ (.BoolOp .And (a :: b :: rest) pos) (andM m n) := by
  obtain ⟨ta, pa, qa⟩ := h.ex
  obtain ⟨tb, pb, qb⟩ := h2.ex
  refine ⟨_, pe_and pa pb, fun S own σ H Q rs hp => qa S own σ H _ rs (hp.bind.imp (fun x hx H1 v s r => ⟨x, r, ?_⟩) fun _ z => z)⟩
  cases x with
  | true =>
    rw [if_pos rfl]
    exact qb S own σ H1 Q (rs.mono s) (Post.imp (show Post n _ _ from hx) (fun y hy H2 v s2 r2 => hy H2 v (s.trans s2) (Flat.any r2)) fun _ z => z.mono s)
  | false =>
    rw [if_neg Bool.false_ne_true]
    exact hx H1 (.bl false) s rfl
theorem e_or {m n : Res Bool} {rest : List Expr} (h : EG X W true ρ a m) (h2 : EG X W true ρ (.BoolOp .Or (b :: rest) pos) n) : EG X W g ρ (.BoolOp .Or (a :: b :: rest) pos) (orM m n) := by
  obtain ⟨ta, pa, qa⟩ := h.ex
  obtain ⟨tb, pb, qb⟩ := h2.ex
  refine ⟨_, pe_or pa pb, fun S own σ H Q rs hp => qa S own σ H _ rs (hp.bind.imp (fun x hx H1 v s r => ⟨x, r, ?_⟩) fun _ z => z)⟩
  cases x with
  | true =>
    rw [if_pos rfl]
    exact hx H1 (.bl true) s rfl
  | false =>
    rw [if_neg Bool.false_ne_true]
    exact qb S own σ H1 Q (rs.mono s) (Post.imp (show Post n _ _ from hx) (fun y hy H2 v s2 r2 => hy H2 v (s.trans s2) (Flat.any r2)) fun _ z => z.mono s)
theorem e_not {m : Res Bool} (h : EG X W true ρ a m) : EG X W g ρ (.UnaryOp .Not a pos) (m.bind fun b => .ok (!b)) := by
  obtain ⟨t, p, q⟩ := h.ex
  exact ⟨_, pe_not p, fun S own σ H Q rs hp => q S own σ H _ rs (hp.bind.imp (fun x hx H' v s r => ⟨x, r, hx H' _ s rfl⟩) fun _ z => z)⟩
theorem e_if {c : Expr} {mc : Res Bool} {m n : Res T} (hc : TJ X W ρ c mc) (h : EG X W g ρ a m) (h2 : EG X W g ρ b n) : EG X W g ρ (.IfExp c a b pos) (mc.bind fun k => if k then m else n) := by
  obtain ⟨tc, pc, qc⟩ := hc.ex
  obtain ⟨ta, pa, qa⟩ := h.ex
  obtain ⟨tb, pb, qb⟩ := h2.ex
  refine ⟨_, pe_ifExp pc pa pb, fun S own σ H Q rs hp => qc S own σ H _ rs (hp.bind.imp (fun x hx H1 s => ?_) fun _ z => z)⟩
  cases x with
  | true =>
    rw [if_pos rfl]
    exact qa S own σ H1 Q (rs.mono s) (Post.imp (show Post m _ _ from hx) (fun y hy H2 v s2 r2 => hy H2 v (s.trans s2) r2) fun _ z => z.mono s)
  | false =>
    rw [if_neg Bool.false_ne_true]
    exact qb S own σ H1 Q (rs.mono s) (Post.imp (show Post n _ _ from hx) (fun y hy H2 v s2 r2 => hy H2 v (s.trans s2) r2) fun _ z => z.mono s)

/-! ### arguments -/
theorem a_nil {k : Unit → Res R} : AJ X W g ρ [] asN k (k ()) :=
  ⟨_, pa_nil, fun S own σ H Q P E rs hE h q => q () [] H (Same.refl H) .nil h⟩
theorem a_cons {es : List Expr} {A : Type} {as : A → List AV} {k : T × A → Res R} {m1 : Res T} {m2 : T → Res R} (h1 : EG X W g ρ e m1) (h2 : ∀ x, AJ X W g ρ es as (fun xs => k (x, xs)) (m2 x))
    (hs : starEach (e :: es) X.env = (false, eval e X.env) :: starEach es X.env := by rfl) : AJ X W g ρ (e :: es) (asC as) k (m1.bind m2) := by
  obtain ⟨t1, p1, q1⟩ := h1.ex
  have dead : PA X es (fun _ _ _ => False) := ⟨fun _ _ _ _ _ _ _ h => h.elim⟩
  cases m1 with
  | bad => exact ⟨_, pa_cons p1 dead hs, fun S own σ H Q P E rs hE h q => h.elim⟩
  | err z => exact ⟨_, pa_cons p1 dead hs, fun S own σ H Q P E rs hE h q => q1 S own σ H _ rs (hE z h)⟩
  | ok x =>
    obtain ⟨t2, p2, q2⟩ := (h2 x).ex
    exact ⟨_, pa_cons p1 p2 hs, fun S own σ H Q P E rs hE h q => q1 S own σ H _ rs fun H1 v s1 r1 => q2 S own σ H1 _ P E (rs.mono s1) (fun e z => (hE e z).mono s1) h fun xs vs H2 s2 r2 hk =>
      q (x, xs) (v :: vs) H2 (s1.trans s2) (.cons (Rp.mono (hide_same s2) r1) r2) hk⟩
theorem a_consp {es : List Expr} {A : Type} {as : A → List AV} {k : T × A → Res R} {x : T} {m : Res R} (h1 : EG X W g ρ e (.ok x)) (h2 : AJ X W g ρ es as (fun xs => k (x, xs)) m)
    (hs : starEach (e :: es) X.env = (false, eval e X.env) :: starEach es X.env := by rfl) : AJ X W g ρ (e :: es) (asC as) k m := by
  obtain ⟨t1, p1, q1⟩ := h1.ex
  obtain ⟨t2, p2, q2⟩ := h2.ex
  exact ⟨_, pa_cons p1 p2 hs, fun S own σ H Q P E rs hE h q => q1 S own σ H _ rs fun H1 v s1 r1 => q2 S own σ H1 _ P E (rs.mono s1) (fun e z => (hE e z).mono s1) h fun xs vs H2 s2 r2 hk =>
      q (x, xs) (v :: vs) H2 (s1.trans s2) (.cons (Rp.mono (hide_same s2) r1) r2) hk⟩
/-! ### the same where the parts are values -/
variable {x y : Int} {p q : Bool}
theorem e_addp (ha : EG X W true ρ a (.ok x)) (hb : EG X W true ρ b (.ok y)) : EG X W g ρ (.BinOp a .Add b pos) (.ok (x + y)) := e_add ha hb
theorem e_subp (ha : EG X W true ρ a (.ok x)) (hb : EG X W true ρ b (.ok y)) : EG X W g ρ (.BinOp a .Sub b pos) (.ok (x - y)) := e_sub ha hb
theorem e_mulp (ha : EG X W true ρ a (.ok x)) (hb : EG X W true ρ b (.ok y)) : EG X W g ρ (.BinOp a .Mult b pos) (mulM x y) := e_mul ha hb
theorem e_fdivp (ha : EG X W true ρ a (.ok x)) (hb : EG X W true ρ b (.ok y)) : EG X W g ρ (.BinOp a .FloorDiv b pos) (divM x y) := e_fdiv ha hb
theorem e_modp (ha : EG X W true ρ a (.ok x)) (hb : EG X W true ρ b (.ok y)) : EG X W g ρ (.BinOp a .Mod b pos) (modM x y) := e_mod ha hb
theorem e_powp (ha : EG X W true ρ a (.ok x)) (hb : EG X W true ρ b (.ok y)) : EG X W g ρ (.BinOp a .Pow b pos) (powM x y) := e_pow ha hb
theorem e_negp (ha : EG X W true ρ a (.ok x)) : EG X W g ρ (.UnaryOp .USub a pos) (.ok (-x)) := e_neg ha
theorem e_ltp (ha : EG X W true ρ a (.ok x)) (hb : EG X W true ρ b (.ok y)) : CJ X W ρ .Lt a b (.ok (decide (x < y))) := e_lt ha hb
theorem e_lep (ha : EG X W true ρ a (.ok x)) (hb : EG X W true ρ b (.ok y)) : CJ X W ρ .LtE a b (.ok (decide (x ≤ y))) := e_le ha hb
theorem e_gtp (ha : EG X W true ρ a (.ok x)) (hb : EG X W true ρ b (.ok y)) : CJ X W ρ .Gt a b (.ok (decide (y < x))) := e_gt ha hb
theorem e_gep (ha : EG X W true ρ a (.ok x)) (hb : EG X W true ρ b (.ok y)) : CJ X W ρ .GtE a b (.ok (decide (y ≤ x))) := e_ge ha hb
theorem e_eqp [DecidableEq T] [Scal T] {x y : T} (ha : EG X W true ρ a (.ok x)) (hb : EG X W true ρ b (.ok y)) : CJ X W ρ .Eq a b (.ok (decide (x = y))) := e_eq ha hb
theorem e_nep [DecidableEq T] [Scal T] {x y : T} (ha : EG X W true ρ a (.ok x)) (hb : EG X W true ρ b (.ok y)) : CJ X W ρ .NotEq a b (.ok (!decide (x = y))) := e_ne ha hb
theorem t_notp (h : TJ X W ρ a (.ok p)) : TJ X W ρ (.UnaryOp .Not a pos) (.ok (!p)) := t_not h
theorem tw_andp {rest : List Expr} (h : TJ X W ρ a (.ok p)) (h2 : TWJ X W ρ (.BoolOp .And (b :: rest) pos) (.ok q)) : TWJ X W ρ (.BoolOp .And (a :: b :: rest) pos) (.ok (p && q)) := andM_ok p q ▸ tw_and h h2
theorem tw_orp {rest : List Expr} (h : TJ X W ρ a (.ok p)) (h2 : TWJ X W ρ (.BoolOp .Or (b :: rest) pos) (.ok q)) : TWJ X W ρ (.BoolOp .Or (a :: b :: rest) pos) (.ok (p || q)) := orM_ok p q ▸ tw_or h h2
theorem e_andp {rest : List Expr} (h : EG X W true ρ a (.ok p)) (h2 : EG X W true ρ (.BoolOp .And (b :: rest) pos) (.ok q)) : EG X W g ρ (.BoolOp .And (a :: b :: rest) pos) (.ok (p && q)) := andM_ok p q ▸ e_and h h2
theorem e_orp {rest : List Expr} (h : EG X W true ρ a (.ok p)) (h2 : EG X W true ρ (.BoolOp .Or (b :: rest) pos) (.ok q)) : EG X W g ρ (.BoolOp .Or (a :: b :: rest) pos) (.ok (p || q)) := orM_ok p q ▸ e_or h h2
theorem e_notp (h : EG X W true ρ a (.ok p)) : EG X W g ρ (.UnaryOp .Not a pos) (.ok (!p)) := e_not h
theorem e_ifp {c : Expr} {u v : T} (hc : TJ X W ρ c (.ok p)) (h : EG X W g ρ a (.ok u)) (h2 : EG X W g ρ b (.ok v)) : EG X W g ρ (.IfExp c a b pos) (.ok (if p then u else v)) := by
  have := e_if (pos := pos) hc h h2
  cases p <;> exact this
end
end Py

set_option Elab.async false
set_option linter.all false
set_option maxRecDepth 100000
set_option maxHeartbeats 1000000
/-! Py, part C: tuples, lists, subscripts, slices, built-in calls, calls of defs. -/
namespace Py
open PySem PySem.Spec L2
open Rp (rp)

/-- a list whose items are in sight (it may itself be kept) -/
abbrev LGp (X : Cx) (W : WX) (ρ : List Slot) (t : TE) {T : Type} [Rp T] (m : Res (List T)) : Prop :=
  ∀ (S own : List Addr) (σ : St) (H : Hp) (Q : VK), RS X.K S ρ σ H own → Post m (fun xs => ∀ H' a vs, Same H H' → H' a = some (.lst vs) → RpAll X.K (hide (S ++ own) H') vs xs → Q (.ref a) H') (ErrX X W S own σ H) → t σ H Q
structure LG (X : Cx) (W : WX) (ρ : List Slot) (e : Expr) {T : Type} [Rp T] (m : Res (List T)) : Prop where
  ex : ∃ t, PE X e t ∧ LGp X W ρ t m
/-- a new list -/
abbrev FGp (X : Cx) (W : WX) (ρ : List Slot) (t : TE) {T : Type} [Rp T] (m : Res (List T)) : Prop :=
  ∀ (S own : List Addr) (σ : St) (H : Hp) (Q : VK), RS X.K S ρ σ H own → Post m (fun xs => ∀ H' a vs, Same H H' → H a = none → H' a = some (.lst vs) → RpAll X.K (hide (a :: (S ++ own)) H') vs xs → Q (.ref a) H') (ErrX X W S own σ H) → t σ H Q
structure FG (X : Cx) (W : WX) (ρ : List Slot) (e : Expr) {T : Type} [Rp T] (m : Res (List T)) : Prop where
  ex : ∃ t, PE X e t ∧ FGp X W ρ t m

theorem RS.fresh {K : PySem.W.Frag} {S own : List Addr} {ρ : List Slot} {σ : St} {H : Hp} {p : Addr} (rs : RS K S ρ σ H own) (h : H p = none) : p ∉ S ++ own := fun z => rs.dom p z h
theorem hide_new {B : List Addr} {H : Hp} {p : Addr} {o : HO} (h : H p = none) (hp : p ∉ B) : hide (p :: B) (upd H p o) = hide B H := by
  rw [hide_upd_in List.mem_cons_self, hide_cons_new h]
theorem RpAll.length {T : Type} [Rp T] {K : PySem.W.Frag} {H : Hp} {vs : List V} {xs : List T} (h : RpAll K H vs xs) : vs.length = xs.length := Paired.length h
theorem ArgsR.length {K : PySem.W.Frag} {H : Hp} {vs : List V} {xs : List AV} (h : ArgsR K H vs xs) : vs.length = xs.length := by
  induction h with
  | nil => rfl
  | cons _ _ ih => simp [ih]
theorem ArgsR.get {K : PySem.W.Frag} {H : Hp} {vs : List V} {xs : List AV} (h : ArgsR K H vs xs) : ∀ {i : Nat} {x : AV}, xs[i]? = some x → ∃ v, vs[i]? = some v ∧ x.rp K H v := by
  induction h with
  | nil => intro i x e; cases e
  | cons r _ ih =>
    intro i x e
    cases i with
    | zero => cases e; exact ⟨_, rfl, r⟩
    | succ i => exact ih e
theorem RpAll.get {T : Type} [Rp T] {K : PySem.W.Frag} {H : Hp} : ∀ {vs : List V} {xs : List T} {i : Nat} {x : T}, RpAll K H vs xs → xs[i]? = some x → ∃ v, vs[i]? = some v ∧ rp K H v x
  | _, _, 0, _, .cons r _, e => by cases e; exact ⟨_, rfl, r⟩
  | _, _, i + 1, _, .cons _ t, e => RpAll.get (i := i) t e
  | _, _, 0, _, .nil, e => by cases e
  | _, _, i + 1, _, .nil, e => by cases e
theorem RpAll.append {T : Type} [Rp T] {K : PySem.W.Frag} {H : Hp} : ∀ {vs us : List V} {xs ys : List T}, RpAll K H vs xs → RpAll K H us ys → RpAll K H (vs ++ us) (xs ++ ys)
  | _, _, _, _, .nil, h => h
  | _, _, _, _, .cons r t, h => .cons r (RpAll.append t h)
theorem RpAll.take {T : Type} [Rp T] {K : PySem.W.Frag} {H : Hp} : ∀ {vs : List V} {xs : List T} (n : Nat), RpAll K H vs xs → RpAll K H (vs.take n) (xs.take n)
  | _, _, 0, _ => .nil
  | _, _, n + 1, .nil => .nil
  | _, _, n + 1, .cons r t => .cons r (RpAll.take n t)
theorem RpAll.drop {T : Type} [Rp T] {K : PySem.W.Frag} {H : Hp} : ∀ {vs : List V} {xs : List T} (n : Nat), RpAll K H vs xs → RpAll K H (vs.drop n) (xs.drop n)
  | _, _, 0, h => h
  | _, _, n + 1, .nil => .nil
  | _, _, n + 1, .cons r t => RpAll.drop n t
theorem RpAll.set {T : Type} [Rp T] {K : PySem.W.Frag} {H : Hp} {v : V} {x : T} (r : rp K H v x) : ∀ {vs : List V} {xs : List T} (i : Nat), RpAll K H vs xs → RpAll K H (vs.set i v) (xs.set i x)
  | _, _, _, .nil => .nil
  | _, _, 0, .cons _ t => .cons r t
  | _, _, i + 1, .cons q t => .cons q (RpAll.set r i t)
theorem RpAll.reverse {T : Type} [Rp T] {K : PySem.W.Frag} {H : Hp} : ∀ {vs : List V} {xs : List T}, RpAll K H vs xs → RpAll K H vs.reverse xs.reverse
  | _, _, .nil => .nil
  | _, _, .cons r t => by
    rw [List.reverse_cons, List.reverse_cons]
    exact RpAll.append (RpAll.reverse t) (.cons r .nil)
theorem RpAll.int {K : PySem.W.Frag} {H : Hp} : ∀ {vs : List V} {xs : List Int}, RpAll K H vs xs → vs = xs.map V.int
  | _, _, .nil => rfl
  | _, _, .cons r t => by rw [List.map_cons, ← RpAll.int t, show _ = V.int _ from r]
theorem RpAll.of_int {K : PySem.W.Frag} {H : Hp} : ∀ (xs : List Int), RpAll K H (xs.map V.int) xs
  | [] => .nil
  | _ :: t => .cons rfl (RpAll.of_int t)
theorem RpAll.str {K : PySem.W.Frag} {H : Hp} : ∀ {vs : List V} {xs : List Str}, RpAll K H vs xs → vs = xs.map V.str
  | _, _, .nil => rfl
  | _, _, .cons r t => by rw [List.map_cons, ← RpAll.str t, show _ = V.str _ from r]
theorem RpAll.of_str {K : PySem.W.Frag} {H : Hp} : ∀ (xs : List Str), RpAll K H (xs.map V.str) xs
  | [] => .nil
  | _ :: t => .cons rfl (RpAll.of_str t)
theorem RpAll.bl {K : PySem.W.Frag} {H : Hp} : ∀ {vs : List V} {xs : List Bool}, RpAll K H vs xs → vs = xs.map V.bl
  | _, _, .nil => rfl
  | _, _, .cons r t => by rw [List.map_cons, ← RpAll.bl t, show _ = V.bl _ from r]
section
variable {X : Cx} {W : WX} {g : Bool} {ρ : List Slot} {T A B C R : Type} [Rp T] [Rp A] [Rp B] [Rp C] [Rp R] {a b e : Expr} {pos : Pos} {lv : Nat}
theorem EG.lg {m : Res (List T)} (h : EG X W true ρ e m) : LG X W ρ e m := by
  obtain ⟨t, p, q⟩ := h.ex
  refine ⟨t, p, fun S own σ H Q rs hp => q S own σ H Q rs (hp.imp (fun xs hx H' v s r => ?_) fun _ z => z)⟩
  obtain ⟨a, vs, rfl, e1, e2⟩ := r
  exact hx H' a vs s (hide_sub _ _ e1) e2
theorem l_own (i : Nat) {x : Str} {ao : Option Addr} {xs : List T} (hr : ρ[i]? = some (Slot.own T ao xs) := by rfl) (hN : X.N[i]? = some x := by rfl) (hv : Vis X.env.scope x := by first | exact Or.inl rfl | exact Or.inr (Or.inl rfl) | exact Or.inr (Or.inr rfl))
    (hd : (x == ("__debug__" : Str)) = false := by decide) (hcd : (x == ("__classdict__" : Str)) = false := by decide) : LG X W ρ (.Name x pos) (.ok xs) := by
  refine ⟨_, pe_var hN hv hd hcd, fun S own σ H Q rs h => ?_⟩
  obtain ⟨ads, r, _, h3⟩ := rs.rs
  obtain ⟨a, vs, e, e1, e2, e3, _⟩ := r.own_at hr
  exact ⟨_, e, h H a vs (Same.refl H) e2 e3⟩
theorem FG.ej {m : Res (List T)} (h : FG X W ρ e m) : EG X W g ρ e m := by
  obtain ⟨t, p, q⟩ := h.ex
  refine ⟨t, p, fun S own σ H Q rs hp => q S own σ H Q rs (hp.imp (fun xs hx H' a vs s na e1 e2 => hx H' _ s ⟨a, vs, rfl, ?_, RpAll.mono (hide_mono fun z hz => List.mem_cons_of_mem _ (reg_sub z hz)) e2⟩) fun _ z => z)⟩
  rw [hide_out fun z => rs.dom a (reg_sub a z) na]
  exact e1
theorem FG.lg {m : Res (List T)} (h : FG X W ρ e m) : LG X W ρ e m := EG.lg (FG.ej h)
theorem FG.of_eq {m m' : Res (List T)} (h : FG X W ρ e m) (z : m = m') : FG X W ρ e m' := z ▸ h

theorem lone_run {ta : TE} {ma : Res (List A)} {f : List A → Res C} {P : C → Prop} {S own : List Addr} {σ : St} {H : Hp} {R' : V → Hp → Prop} (ha : LGp X W ρ ta ma) (rs : RS X.K S ρ σ H own)
    (h : Post (ma.bind f) P (ErrX X W S own σ H)) (k : ∀ xs a vs H', Same H H' → H' a = some (.lst vs) → RpAll X.K (hide (S ++ own) H') vs xs → Post (f xs) P (ErrX X W S own σ H) → R' (.ref a) H') : ta σ H R' :=
  ha S own σ H _ rs (h.bind.imp (fun x hx H1 a vs s1 r1 r2 => k x a vs H1 s1 r1 r2 hx) fun _ z => z)
theorem ltwo_run {gb : Bool} {ta tb : TE} {ma : Res (List A)} {mb : Res B} {f : List A → B → Res C} {P : C → Prop} {S own : List Addr} {σ : St} {H : Hp} {R' : V → V → Hp → Prop} (ha : LGp X W ρ ta ma) (hb : EGp X W gb ρ tb mb) (rs : RS X.K S ρ σ H own)
    (h : Post (ma.bind fun x => mb.bind (f x)) P (ErrX X W S own σ H))
    (k : ∀ xs y a vs u H', Same H H' → H' a = some (.lst vs) → RpAll X.K (hide (S ++ own) H') vs xs → rp X.K (hide (reg gb S own) H') u y → Post (f xs y) P (ErrX X W S own σ H) → R' (.ref a) u H') : ta σ H fun v H1 => tb σ H1 fun u H2 => R' v u H2 :=
  ha S own σ H _ rs (h.bind.imp (fun x hx H1 a vs s1 r1 r2 => hb S own σ H1 _ (rs.mono s1) (hx.bind.imp (fun y hy H2 u s2 r3 => k x y a vs u H2 (s1.trans s2) (s2 _ _ r1) (RpAll.mono (hide_same s2) r2) r3 hy) fun _ z => z.mono s1)) fun _ z => z)

/-! ### displays -/
theorem e_tup {es : List Expr} {A T : Type} [Places T] {as : A → List AV} {mk : A → T} {m : Res T} {x1} (h : AJ X W g ρ es as (fun x => .ok (mk x)) m) (hp : ∀ x, Places.av (mk x) = as x := by intro _; rfl)
    (hz : ∀ x, (as x).length ≤ sizeLine := by intro _; exact Nat.le_of_ble_eq_true rfl) : EG X W g ρ (.Tuple es x1 pos) m := by
  obtain ⟨t, p, q⟩ := h.ex
  refine ⟨_, pe_tup p, fun S own σ H Q rs hP => q S own σ H _ _ _ rs (fun e z => z) hP fun x vs H' s r hx => ⟨by rw [r.length]; exact hz x, fun p np => ?_⟩⟩
  have s2 : Same H' (upd H' p (.tup vs)) := same_upd np
  refine hx _ _ (s.trans s2) ⟨p, vs, rfl, .inl (.inl ?_), ?_⟩
  · rw [hide_out fun z => (rs.mono s).dom p (reg_sub p z) np, upd_same]
  · rw [hp]
    exact r.mono (hide_same s2)
theorem args_all {K : PySem.W.Frag} {H : Hp} : ∀ {vs : List V} {xs : List T}, ArgsR K H vs (xs.map av) → RpAll K H vs xs
  | _, [], .nil => .nil
  | _, _ :: _, .cons r t => .cons r (args_all t)
theorem f_list {es : List Expr} {A : Type} {as : A → List AV} {mk : A → List T} {m : Res (List T)} (h : AJ X W true ρ es as (fun x => .ok (mk x)) m) (hp : ∀ x, as x = (mk x).map av := by intro _; rfl)
    (hz : ∀ x, (mk x).length ≤ sizeLine := by intro _; exact Nat.le_of_ble_eq_true rfl) : FG X W ρ (.List es pos) m := by
  obtain ⟨t, p, q⟩ := h.ex
  refine ⟨_, pe_lst p, fun S own σ H Q rs hP => q S own σ H _ _ _ rs (fun e z => z) hP fun x vs H' s r hx => ?_⟩
  rw [hp] at r
  have r2 := args_all r
  refine ⟨by rw [r2.length]; exact hz x, fun p np => ?_⟩
  refine hx (upd H' p (.lst vs)) p vs (s.trans (same_upd np)) (s.free np) upd_same ?_
  rw [hide_new np ((rs.mono s).fresh np)]
  exact r2

/-! ### subscripts -/
def idxM {α : Type} (xs : List α) (i : Int) : Res α := match atI xs i with
  | some x => .ok x
  | none => .bad
theorem atI_rel {K : PySem.W.Frag} {H : Hp} {vs : List V} {xs : List T} (r : RpAll K H vs xs) {i : Int} {x : T} (h : atI xs i = some x) : ∃ v, atI vs i = some v ∧ rp K H v x := by
  unfold atI at h ⊢
  rw [r.length]
  cases e : ixN xs.length i with
  | none => rw [e] at h; cases h
  | some j =>
    rw [e] at h
    exact r.get (show xs[j]? = some x from h)
theorem e_ix {ma : Res (List T)} {mb : Res Int} (ha : LG X W ρ a ma) (hb : EG X W true ρ b mb) (hs : PlainIx b := by exact fun _ _ => rfl) : EG X W g ρ (.Subscript a b pos) (ma.bind fun xs => mb.bind fun i => idxM xs i) := by
  obtain ⟨ta, pa, qa⟩ := ha.ex
  obtain ⟨tb, pb, qb⟩ := hb.ex
  refine ⟨_, pe_ix ix_list pa pb hs, fun S own σ H Q rs h => ltwo_run (R' := fun v u H2 => rIxL X.K v u H2 Q) qa qb rs h fun xs i p vs u H2 s r1 r2 r3 hp => ?_⟩
  unfold idxM at hp
  cases e : atI xs i with
  | none => rw [e] at hp; exact hp.elim
  | some x =>
    rw [e] at hp
    obtain ⟨v, e2, r4⟩ := atI_rel r2 e
    exact ⟨p, vs, i, v, rfl, r3, .inl (.inl r1), e2, hp H2 v s (Rp.mono (hide_mono reg_sub) r4)⟩
theorem e_ixt {ma : Res (Tup T)} {mb : Res Int} (ha : EG X W g ρ a ma) (hb : EG X W true ρ b mb) (hs : PlainIx b := by exact fun _ _ => rfl) : EG X W g ρ (.Subscript a b pos) (ma.bind fun xs => mb.bind fun i => idxM xs.l i) := by
  obtain ⟨ta, pa, qa⟩ := ha.ex
  obtain ⟨tb, pb, qb⟩ := hb.ex
  refine ⟨_, pe_ix ix_tup pa pb hs, fun S own σ H Q rs h => two_run (R' := fun v u H2 => rIxT X.K v u H2 Q) qa qb rs h fun xs i w' u H2 s r1 r3 hp => ?_⟩
  obtain ⟨p, vs, rfl, h1, r2⟩ := r1
  unfold idxM at hp
  cases e : atI xs.l i with
  | none => rw [e] at hp; exact hp.elim
  | some x =>
    rw [e] at hp
    obtain ⟨v, e2, r4⟩ := atI_rel r2 e
    exact ⟨p, vs, i, v, rfl, r3, SqT.same hide_sub h1, e2, hp H2 v s r4⟩
/-- a tuple's place -/
theorem e_pl {A : Type} [Places A] {j : Nat} {f : A → T} {ma : Res A} {c} {p2 : Pos} (ha : EG X W g ρ a ma) (hf : ∀ x, (Places.av x)[j]? = some (av (f x)) := by intro _; rfl) : EG X W g ρ (.Subscript a (.Constant (.int (j : Int)) c p2) pos) (ma.bind fun x => .ok (f x)) := by
  obtain ⟨ta, pa, qa⟩ := ha.ex
  refine ⟨_, pe_ix ix_tup pa pe_int (fun _ _ => rfl), fun S own σ H Q rs h => one_run (R' := fun v H2 => rIxT X.K v (.int (j : Int)) H2 Q) qa rs h fun x w' H2 s r1 hp => ?_⟩
  obtain ⟨p, vs, rfl, h1, r2⟩ := r1
  obtain ⟨v, e2, r4⟩ := r2.get (hf x)
  exact ⟨p, vs, (j : Int), v, rfl, rfl, SqT.same hide_sub h1, atI_nat e2, hp H2 v s r4⟩
theorem e_ixs {ma : Res Str} {mb : Res Int} (ha : EG X W true ρ a ma) (hb : EG X W true ρ b mb) (hs : PlainIx b := by exact fun _ _ => rfl) :
    EG X W g ρ (.Subscript a b pos) (ma.bind fun z => mb.bind fun i => guardR (decide (z.length ≤ sizeLine)) ((idxM z.cps.toList i).bind fun c => .ok (⟨#[c]⟩ : Str))) := by
  obtain ⟨ta, pa, qa⟩ := ha.ex
  obtain ⟨tb, pb, qb⟩ := hb.ex
  refine ⟨_, pe_ix ix_str pa pb hs, fun S own σ H Q rs h => two_run (R' := fun v u H2 => rIxS v u H2 Q) qa qb rs h fun z i w' u H2 s r1 r3 hp => ?_⟩
  obtain ⟨h1, hp⟩ := hp.guard
  unfold idxM at hp
  cases e : atI z.cps.toList i with
  | none => rw [e] at hp; exact hp.elim
  | some c =>
    rw [e] at hp
    exact ⟨z, i, c, r1, r3, of_decide_eq_true h1, e, hp H2 _ s rfl⟩
/-- the script -/
theorem e_ixscr {ma : Res Scr} {mb : Res Int} (ha : EG X W true ρ a ma) (hb : EG X W true ρ b mb) (hs : PlainIx b := by exact fun _ _ => rfl) : EG X W g ρ (.Subscript a b pos) (ma.bind fun z => mb.bind fun i => idxM z.ns i) := by
  obtain ⟨ta, pa, qa⟩ := ha.ex
  obtain ⟨tb, pb, qb⟩ := hb.ex
  refine ⟨_, pe_ix ix_list pa pb hs, fun S own σ H Q rs h => two_run (R' := fun v u H2 => rIxL X.K v u H2 Q) qa qb rs h fun z i w' u H2 s r1 r3 hp => ?_⟩
  obtain ⟨p, rfl, h1⟩ := r1
  unfold idxM at hp
  cases e : atI z.ns i with
  | none => rw [e] at hp; exact hp.elim
  | some x =>
    rw [e] at hp
    obtain ⟨v, e2, r4⟩ := atI_rel (RpAll.of_int (K := X.K) (H := H2) z.ns) e
    exact ⟨p, _, i, v, rfl, r3, hide_sub.seq h1, e2, hp H2 v s r4⟩

/-! ### slices -/
abbrev OGp (X : Cx) (W : WX) (ρ : List Slot) (t : TO) (m : Res (Option Int)) : Prop :=
  ∀ (S own : List Addr) (σ : St) (H : Hp) (Q : Option Int → Hp → Prop), RS X.K S ρ σ H own → Post m (fun x => ∀ H', Same H H' → Q x H') (ErrX X W S own σ H) → t σ H Q
structure OG (X : Cx) (W : WX) (ρ : List Slot) (e : Option Expr) (m : Res (Option Int)) : Prop where
  ex : ∃ t, PO X e t ∧ OGp X W ρ t m
theorem o_none : OG X W ρ none (.ok none) := ⟨_, po_none, fun S own σ H Q rs h => h H (Same.refl H)⟩
theorem o_some {m : Res Int} (h : EG X W true ρ e m) : OG X W ρ (some e) (m.bind fun i => .ok (some i)) := by
  obtain ⟨t, p, q⟩ := h.ex
  exact ⟨_, po_some p, fun S own σ H Q rs hp => q S own σ H _ rs (hp.bind.imp (fun x hx H' v s r => ⟨x, r, hx H' s⟩) fun _ z => z)⟩
def cut {α : Type} (xs : List α) (lo hi : Option Int) : List α := (xs.drop (HT.sIx xs.length 0 lo)).take (HT.sIx xs.length xs.length hi - HT.sIx xs.length 0 lo)
theorem cut_rel {K : PySem.W.Frag} {H : Hp} {vs : List V} {xs : List T} (r : RpAll K H vs xs) (lo hi : Option Int) : RpAll K H (cutV vs lo hi) (cut xs lo hi) := by
  unfold cutV cut
  rw [r.length]
  exact (r.drop _).take _
theorem f_slice {ma : Res (List T)} {ml mh : Res (Option Int)} {lo hi : Option Expr} {p2 : Pos} (ha : LG X W ρ e ma) (hl : OG X W ρ lo ml) (hh : OG X W ρ hi mh) :
    FG X W ρ (.Subscript e (.Slice lo hi none p2) pos) (ma.bind fun xs => ml.bind fun l => mh.bind fun h => .ok (cut xs l h)) := by
  obtain ⟨ta, pa, qa⟩ := ha.ex
  obtain ⟨tl, pl, ql⟩ := hl.ex
  obtain ⟨th, ph, qh⟩ := hh.ex
  refine ⟨_, pe_slice sl_list pa pl ph, fun S own σ H Q rs h => qa S own σ H _ rs (h.bind.imp (fun xs hx H1 a vs s1 r1 r2 => ql S own σ H1 _ (rs.mono s1) (hx.bind.imp (fun l hl2 H2 s2 => qh S own σ H2 _ ((rs.mono s1).mono s2) (hl2.bind.imp (fun u hu H3 s3 => ?_) fun _ z => (z.mono s1).mono s2)) fun _ z => z.mono s1)) fun _ z => z)⟩
  refine ⟨a, vs, rfl, .inl (.inl (s3 _ _ (s2 _ _ r1))), fun p np => ?_⟩
  have s4 := (s1.trans s2).trans s3
  refine hu (upd H3 p (.lst (cutV vs l u))) p _ (s4.trans (same_upd np)) (s4.free np) upd_same ?_
  rw [hide_new np ((rs.mono s4).fresh np)]
  exact cut_rel (RpAll.mono (hide_same (s2.trans s3)) r2) l u
theorem e_slstr {ma : Res Str} {ml mh : Res (Option Int)} {lo hi : Option Expr} {p2 : Pos} (ha : EG X W true ρ e ma) (hl : OG X W ρ lo ml) (hh : OG X W ρ hi mh) :
    EG X W g ρ (.Subscript e (.Slice lo hi none p2) pos) (ma.bind fun xs => ml.bind fun l => mh.bind fun h => guardR (decide (xs.length ≤ sizeLine)) (.ok (cutS xs l h))) := by
  obtain ⟨ta, pa, qa⟩ := ha.ex
  obtain ⟨tl, pl, ql⟩ := hl.ex
  obtain ⟨th, ph, qh⟩ := hh.ex
  refine ⟨_, pe_slice sl_str pa pl ph, fun S own σ H Q rs h => qa S own σ H _ rs (h.bind.imp (fun xs hx H1 v s1 r1 => ql S own σ H1 _ (rs.mono s1) (hx.bind.imp (fun l hl2 H2 s2 => qh S own σ H2 _ ((rs.mono s1).mono s2) (hl2.bind.imp (fun u hu H3 s3 => ?_) fun _ z => (z.mono s1).mono s2)) fun _ z => z.mono s1)) fun _ z => z)⟩
  obtain ⟨h1, hu⟩ := hu.guard
  exact ⟨xs, r1, of_decide_eq_true h1, hu H3 _ ((s1.trans s2).trans s3) rfl⟩

/-! ### built-in calls -/
theorem b_flat {x : Str} {p : Pos} {id : String} {r : List V → Hp → VK → Prop} {f : A → Res C} [Flat C] {ma : Res A} (hc : CallR X (.builtin id) r) (hm : X.mg x = none) (ha : EG X W true ρ a ma)
    (hr : ∀ (B1 : List Addr) (H : Hp) (x : A) (v : V) (Q : VK), rp X.K (hide B1 H) v x → Post (f x) (fun z => ∀ w', rp X.K H w' z → Q w' H) (fun _ => True) → r [v] H Q)
    (hv : bootBuiltins x = some (.builtin id) := by decide +kernel) (hg : Gl X x := by rfl) (hn : x ≠ "__name__" := by decide) (hdb : (x == ("__debug__" : Str)) = false := by decide)
    (he : starEach [a] X.env = (false, eval a X.env) :: starEach [] X.env := by rfl) (hpl : (backTo pos (starEach [] X.env)).any (·.1) = false := by rfl) : EG X W g ρ (.Call (.Name x p) [a] [] pos) (ma.bind f) := by
  obtain ⟨ta, pa, qa⟩ := ha.ex
  refine ⟨_, pe_callB hc hg hm hv (pa_cons pa pa_nil he) hn hdb he hpl, fun S own σ H Q rs h => one_run (R' := fun v H2 => r [v] H2 Q) qa rs h fun x v H2 s r1 hp => hr _ H2 x v Q r1 (hp.imp (fun z hz w' rw' => hz H2 w' s (Flat.any rw')) fun _ _ => trivial)⟩
theorem bt_flat {x : Str} {p : Pos} {id : String} {r : List V → Hp → VK → Prop} {f : A → Res C} [Flat C] {ma : Res A} (hc : CallR X (.type id) r) (hm : X.mg x = none) (ha : EG X W true ρ a ma)
    (hr : ∀ (B1 : List Addr) (H : Hp) (x : A) (v : V) (Q : VK), rp X.K (hide B1 H) v x → Post (f x) (fun z => ∀ w', rp X.K H w' z → Q w' H) (fun _ => True) → r [v] H Q)
    (hv : bootBuiltins x = some (.type id) := by decide +kernel) (hg : Gl X x := by rfl) (hn : x ≠ "__name__" := by decide) (hdb : (x == ("__debug__" : Str)) = false := by decide)
    (he : starEach [a] X.env = (false, eval a X.env) :: starEach [] X.env := by rfl) (hpl : (backTo pos (starEach [] X.env)).any (·.1) = false := by rfl) : EG X W g ρ (.Call (.Name x p) [a] [] pos) (ma.bind f) := by
  obtain ⟨ta, pa, qa⟩ := ha.ex
  refine ⟨_, pe_callTy hc hg hm hv (pa_cons pa pa_nil he) hn hdb he hpl, fun S own σ H Q rs h => one_run (R' := fun v H2 => r [v] H2 Q) qa rs h fun x v H2 s r1 hp => hr _ H2 x v Q r1 (hp.imp (fun z hz w' rw' => hz H2 w' s (Flat.any rw')) fun _ _ => trivial)⟩
/-- len -/
class Len (T : Type) [Rp T] where
  len : T → Res Int
  ok : ∀ {K : PySem.W.Frag} {B : List Addr} {H : Hp} {v : V} {x : T} {Q : Int → Prop}, rp K (hide B H) v x → Post (len x) Q (fun _ => True) → ∃ n : Nat, LenV K v H n ∧ Q n
instance : Len (List T) where
  len xs := .ok (xs.length : Int)
  ok {K B H v x Q} r h := by
    obtain ⟨a, vs, rfl, e1, e2⟩ := r
    exact ⟨x.length, .inl ⟨vs, .inl (.inl (hide_sub _ _ e1)), e2.length.symm⟩, h⟩
instance : Len (Tup T) where
  len xs := .ok (xs.l.length : Int)
  ok {K B H v x Q} r h := by
    obtain ⟨a, vs, rfl, e1, e2⟩ := r
    exact ⟨x.l.length, .inr ⟨vs, SqT.same hide_sub e1, e2.length.symm⟩, h⟩
instance : Len Scr where
  len xs := .ok (xs.ns.length : Int)
  ok {K B H v x Q} r h := by
    obtain ⟨a, rfl, e1⟩ := r
    exact ⟨x.ns.length, .inl ⟨_, hide_sub.seq e1, by rw [List.length_map]⟩, h⟩
instance : Len Str where
  len z := guardR (decide (z.length ≤ sizeLine)) (.ok (z.length : Int))
  ok {K B H v x Q} r h := by
    cases r
    obtain ⟨h1, h2⟩ := h.guard
    exact ⟨x.length, ⟨of_decide_eq_true h1, rfl⟩, h2⟩
instance (priority := low) {A : Type} [Places A] : Len A where
  len x := .ok ((Places.av x).length : Int)
  ok {K B H v x Q} r h := by
    obtain ⟨a, vs, rfl, e1, e2⟩ := r
    exact ⟨_, .inr ⟨vs, SqT.same hide_sub e1, e2.length.symm⟩, h⟩
theorem e_len {p : Pos} [Len A] {ma : Res A} (ha : EG X W true ρ a ma) (hm : X.mg "len" = none) (hg : Gl X "len" := by rfl)
    (he : starEach [a] X.env = (false, eval a X.env) :: starEach [] X.env := by rfl) (hpl : (backTo pos (starEach [] X.env)).any (·.1) = false := by rfl) : EG X W g ρ (.Call (.Name "len" p) [a] [] pos) (ma.bind Len.len) :=
  b_flat call_len hm ha (fun B1 H x v Q r h => by
    obtain ⟨n, h1, h2⟩ := Len.ok (Q := fun z => Q (.int z) H) r (h.imp (fun z hz => hz (.int z) rfl) fun _ z => z)
    exact ⟨v, n, rfl, h1, h2⟩) (by decide +kernel) hg (by decide) (by decide) he hpl
theorem e_int1 {p : Pos} {ma : Res Int} (ha : EG X W true ρ a ma) (hm : X.mg "int" = none) (hg : Gl X "int" := by rfl)
    (he : starEach [a] X.env = (false, eval a X.env) :: starEach [] X.env := by rfl) (hpl : (backTo pos (starEach [] X.env)).any (·.1) = false := by rfl) : EG X W g ρ (.Call (.Name "int" p) [a] [] pos) (ma.bind fun x => .ok x) :=
  bt_flat (f := fun x => .ok x) call_int1 hm ha (fun B1 H x v Q r h => by
    cases r
    exact .inl ⟨x, rfl, h _ rfl⟩) (by decide +kernel) hg (by decide) (by decide) he hpl
theorem e_abs {p : Pos} {ma : Res Int} (ha : EG X W true ρ a ma) (hm : X.mg "abs" = none) (hg : Gl X "abs" := by rfl)
    (he : starEach [a] X.env = (false, eval a X.env) :: starEach [] X.env := by rfl) (hpl : (backTo pos (starEach [] X.env)).any (·.1) = false := by rfl) : EG X W g ρ (.Call (.Name "abs" p) [a] [] pos) (ma.bind fun x => .ok (x.natAbs : Int)) :=
  b_flat (f := fun x => .ok (x.natAbs : Int)) call_abs hm ha (fun B1 H x v Q r h => by
    cases r
    refine ⟨x, rfl, ?_⟩
    have e : (if x < 0 then -x else x) = (x.natAbs : Int) := by split <;> omega
    rw [e]
    exact h _ rfl) (by decide +kernel) hg (by decide) (by decide) he hpl
theorem e_strint {p : Pos} {ma : Res Int} (ha : EG X W true ρ a ma) (hm : X.mg "str" = none) (hg : Gl X "str" := by rfl)
    (he : starEach [a] X.env = (false, eval a X.env) :: starEach [] X.env := by rfl) (hpl : (backTo pos (starEach [] X.env)).any (·.1) = false := by rfl) : EG X W g ρ (.Call (.Name "str" p) [a] [] pos) (ma.bind fun x => guardR (decide (x.natAbs.log2 < 1920)) (.ok (toString x : Str))) :=
  bt_flat (f := fun x => guardR (decide (x.natAbs.log2 < 1920)) (.ok (toString x : Str))) call_str_int hm ha (fun B1 H x v Q r h => by
    cases r
    obtain ⟨h1, h2⟩ := h.guard
    exact ⟨x, rfl, of_decide_eq_true h1, h2 _ rfl⟩) (by decide +kernel) hg (by decide) (by decide) he hpl
/-- a built-in over a list, its value flat -/
theorem b_list {x : Str} {p : Pos} {id : String} {r : List V → Hp → VK → Prop} {f : List A → Res C} [Flat C] {ma : Res (List A)} (hc : CallR X (.builtin id) r) (hm : X.mg x = none) (ha : LG X W ρ a ma)
    (hr : ∀ (B1 : List Addr) (H : Hp) (xs : List A) (p : Addr) (vs : List V) (Q : VK), H p = some (.lst vs) → RpAll X.K (hide B1 H) vs xs → Post (f xs) (fun z => ∀ w', rp X.K H w' z → Q w' H) (fun _ => True) → r [.ref p] H Q)
    (hv : bootBuiltins x = some (.builtin id) := by decide +kernel) (hg : Gl X x := by rfl) (hn : x ≠ "__name__" := by decide) (hdb : (x == ("__debug__" : Str)) = false := by decide)
    (he : starEach [a] X.env = (false, eval a X.env) :: starEach [] X.env := by rfl) (hpl : (backTo pos (starEach [] X.env)).any (·.1) = false := by rfl) : EG X W g ρ (.Call (.Name x p) [a] [] pos) (ma.bind f) := by
  obtain ⟨ta, pa, qa⟩ := ha.ex
  refine ⟨_, pe_callB hc hg hm hv (pa_cons pa pa_nil he) hn hdb he hpl, fun S own σ H Q rs h => lone_run (R' := fun v H2 => r [v] H2 Q) qa rs h fun xs a vs H2 s r1 r2 hp => hr _ H2 xs a vs Q r1 r2 (hp.imp (fun z hz w' rw' => hz H2 w' s (Flat.any rw')) fun _ _ => trivial)⟩
theorem e_sum {p : Pos} {ma : Res (List Int)} (hc : X.calm = true) (ha : LG X W ρ a ma) (hm : X.mg "sum" = none) (hg : Gl X "sum" := by rfl)
    (he : starEach [a] X.env = (false, eval a X.env) :: starEach [] X.env := by rfl) (hpl : (backTo pos (starEach [] X.env)).any (·.1) = false := by rfl) : EG X W g ρ (.Call (.Name "sum" p) [a] [] pos) (ma.bind fun xs => .ok xs.sum) :=
  b_list (f := fun xs => .ok xs.sum) (cr_sum hc) hm ha (fun B1 H xs p vs Q e r h => ⟨p, xs, rfl, .inl (.inl (r.int ▸ e)), h _ rfl⟩) (by decide +kernel) hg (by decide) (by decide) he hpl
theorem e_any {p : Pos} {ma : Res (List Bool)} (hc : X.calm = true) (ha : LG X W ρ a ma) (hm : X.mg "any" = none) (hg : Gl X "any" := by rfl)
    (he : starEach [a] X.env = (false, eval a X.env) :: starEach [] X.env := by rfl) (hpl : (backTo pos (starEach [] X.env)).any (·.1) = false := by rfl) : EG X W g ρ (.Call (.Name "any" p) [a] [] pos) (ma.bind fun xs => .ok (xs.any id)) :=
  b_list (f := fun xs => .ok (xs.any id)) (cr_any hc) hm ha (fun B1 H xs p vs Q e r h => ⟨p, xs, rfl, .inl (.inl (r.bl ▸ e)), h _ rfl⟩) (by decide +kernel) hg (by decide) (by decide) he hpl
theorem e_all {p : Pos} {ma : Res (List Bool)} (hc : X.calm = true) (ha : LG X W ρ a ma) (hm : X.mg "all" = none) (hg : Gl X "all" := by rfl)
    (he : starEach [a] X.env = (false, eval a X.env) :: starEach [] X.env := by rfl) (hpl : (backTo pos (starEach [] X.env)).any (·.1) = false := by rfl) : EG X W g ρ (.Call (.Name "all" p) [a] [] pos) (ma.bind fun xs => .ok (xs.all id)) :=
  b_list (f := fun xs => .ok (xs.all id)) (cr_all hc) hm ha (fun B1 H xs p vs Q e r h => ⟨p, xs, rfl, .inl (.inl (r.bl ▸ e)), h _ rfl⟩) (by decide +kernel) hg (by decide) (by decide) he hpl
theorem e_max2 {p : Pos} {ma mb : Res Int} (hc : X.calm = true) (ha : EG X W true ρ a ma) (hb : EG X W true ρ b mb) (hm : X.mg "max" = none) (hg : Gl X "max" := by rfl)
    (he : starEach [a, b] X.env = (false, eval a X.env) :: starEach [b] X.env := by rfl) (he2 : starEach [b] X.env = (false, eval b X.env) :: starEach [] X.env := by rfl) (hpl : (backTo pos (starEach [b] X.env)).any (·.1) = false := by rfl) :
    EG X W g ρ (.Call (.Name "max" p) [a, b] [] pos) (ma.bind fun x => mb.bind fun y => .ok (if y > x then y else x)) := by
  obtain ⟨ta, pa, qa⟩ := ha.ex
  obtain ⟨tb, pb, qb⟩ := hb.ex
  refine ⟨_, pe_callB (call_max2 hc) hg hm (by decide +kernel) (pa_cons pa (pa_cons pb pa_nil he2) he) (by decide) (by decide) he hpl, fun S own σ H Q rs h => two_run (R' := fun v u H2 => ∃ i j, [v, u] = [V.int i, V.int j] ∧ Q (.int (if j > i then j else i)) H2) qa qb rs h fun x y v u H2 s r1 r2 hp => ?_⟩
  cases r1
  cases r2
  exact ⟨x, y, rfl, hp H2 _ s rfl⟩
theorem e_min2 {p : Pos} {ma mb : Res Int} (hc : X.calm = true) (ha : EG X W true ρ a ma) (hb : EG X W true ρ b mb) (hm : X.mg "min" = none) (hg : Gl X "min" := by rfl)
    (he : starEach [a, b] X.env = (false, eval a X.env) :: starEach [b] X.env := by rfl) (he2 : starEach [b] X.env = (false, eval b X.env) :: starEach [] X.env := by rfl) (hpl : (backTo pos (starEach [b] X.env)).any (·.1) = false := by rfl) :
    EG X W g ρ (.Call (.Name "min" p) [a, b] [] pos) (ma.bind fun x => mb.bind fun y => .ok (if y < x then y else x)) := by
  obtain ⟨ta, pa, qa⟩ := ha.ex
  obtain ⟨tb, pb, qb⟩ := hb.ex
  refine ⟨_, pe_callB (call_min2 hc) hg hm (by decide +kernel) (pa_cons pa (pa_cons pb pa_nil he2) he) (by decide) (by decide) he hpl, fun S own σ H Q rs h => two_run (R' := fun v u H2 => ∃ i j, [v, u] = [V.int i, V.int j] ∧ Q (.int (if j < i then j else i)) H2) qa qb rs h fun x y v u H2 s r1 r2 hp => ?_⟩
  cases r1
  cases r2
  exact ⟨x, y, rfl, hp H2 _ s rfl⟩
theorem e_gcd {x : Str} {p : Pos} {ma mb : Res Int} (ha : EG X W true ρ a ma) (hb : EG X W true ρ b mb) (hm : X.mg x = some (.builtin "math.gcd")) (hg : Gl X x := by rfl) (hdb : (x == ("__debug__" : Str)) = false := by decide)
    (he : starEach [a, b] X.env = (false, eval a X.env) :: starEach [b] X.env := by rfl) (he2 : starEach [b] X.env = (false, eval b X.env) :: starEach [] X.env := by rfl) (hpl : (backTo pos (starEach [b] X.env)).any (·.1) = false := by rfl) :
    EG X W g ρ (.Call (.Name x p) [a, b] [] pos) (ma.bind fun x => mb.bind fun y => .ok ((Nat.gcd x.natAbs y.natAbs : Nat) : Int)) := by
  obtain ⟨ta, pa, qa⟩ := ha.ex
  obtain ⟨tb, pb, qb⟩ := hb.ex
  refine ⟨_, pe_callBfun cr_gcd hg hm (pa_cons pa (pa_cons pb pa_nil he2) he) hdb he hpl, fun S own σ H Q rs h => two_run (R' := fun v u H2 => rGcd [v, u] H2 Q) qa qb rs h fun x y v u H2 s r1 r2 hp => ?_⟩
  cases r1
  cases r2
  exact ⟨x, y, rfl, hp H2 _ s rfl⟩

/-! ### new lists, tuples by calls -/
theorem f_listof {p : Pos} {ma : Res (List T)} (ha : LG X W ρ a ma) (hm : X.mg "list" = none) (hg : Gl X "list" := by rfl)
    (he : starEach [a] X.env = (false, eval a X.env) :: starEach [] X.env := by rfl) (hpl : (backTo pos (starEach [] X.env)).any (·.1) = false := by rfl) : FG X W ρ (.Call (.Name "list" p) [a] [] pos) (ma.bind fun xs => .ok xs) := by
  obtain ⟨ta, pa, qa⟩ := ha.ex
  refine ⟨_, pe_callTy call_list_of hg hm (by decide +kernel) (pa_cons pa pa_nil he) (by decide) (by decide) he hpl, fun S own σ H Q rs h => lone_run (R' := fun v H2 => ∃ p ys, [v] = [V.ref p] ∧ (SqL X.K H2 p ys ∨ SqT X.K H2 p ys) ∧ ∀ l, H2 l = none → Q (.ref l) (upd H2 l (.lst ys))) qa rs h fun xs a vs H2 s r1 r2 hp => ?_⟩
  refine ⟨a, vs, rfl, .inl (.inl (.inl r1)), fun l nl => hp (upd H2 l (.lst vs)) l vs (s.trans (same_upd nl)) (s.free nl) upd_same ?_⟩
  rw [hide_new nl ((rs.mono s).fresh nl)]
  exact r2
theorem f_listoft {p : Pos} {ma : Res (Tup T)} (ha : EG X W true ρ a ma) (hm : X.mg "list" = none) (hg : Gl X "list" := by rfl)
    (he : starEach [a] X.env = (false, eval a X.env) :: starEach [] X.env := by rfl) (hpl : (backTo pos (starEach [] X.env)).any (·.1) = false := by rfl) : FG X W ρ (.Call (.Name "list" p) [a] [] pos) (ma.bind fun xs => .ok xs.l) := by
  obtain ⟨ta, pa, qa⟩ := ha.ex
  refine ⟨_, pe_callTy call_list_of hg hm (by decide +kernel) (pa_cons pa pa_nil he) (by decide) (by decide) he hpl, fun S own σ H Q rs h => one_run (R' := fun v H2 => ∃ p ys, [v] = [V.ref p] ∧ (SqL X.K H2 p ys ∨ SqT X.K H2 p ys) ∧ ∀ l, H2 l = none → Q (.ref l) (upd H2 l (.lst ys))) qa rs h fun xs v H2 s r1 hp => ?_⟩
  obtain ⟨a, vs, rfl, h1, r2⟩ := r1
  refine ⟨a, vs, rfl, .inr (SqT.same hide_sub h1), fun l nl => hp (upd H2 l (.lst vs)) l vs (s.trans (same_upd nl)) (s.free nl) upd_same ?_⟩
  rw [hide_new nl ((rs.mono s).fresh nl)]
  exact r2
theorem e_tupof {p : Pos} {ma : Res (List T)} (ha : LG X W ρ a ma) (hm : X.mg "tuple" = none) (hg : Gl X "tuple" := by rfl)
    (he : starEach [a] X.env = (false, eval a X.env) :: starEach [] X.env := by rfl) (hpl : (backTo pos (starEach [] X.env)).any (·.1) = false := by rfl) : EG X W g ρ (.Call (.Name "tuple" p) [a] [] pos) (ma.bind fun xs => .ok (⟨xs⟩ : Tup T)) := by
  obtain ⟨ta, pa, qa⟩ := ha.ex
  refine ⟨_, pe_callTy call_tuple_of hg hm (by decide +kernel) (pa_cons pa pa_nil he) (by decide) (by decide) he hpl, fun S own σ H Q rs h => lone_run (R' := fun v H2 => ∃ p ys, [v] = [V.ref p] ∧ ((SqL X.K H2 p ys ∧ ∀ l, H2 l = none → Q (.ref l) (upd H2 l (.tup ys))) ∨ (SqT X.K H2 p ys ∧ Q (.ref p) H2))) qa rs h fun xs a vs H2 s r1 r2 hp => ?_⟩
  refine ⟨a, vs, rfl, .inl ⟨.inl (.inl r1), fun l nl => hp _ (.ref l) (s.trans (same_upd nl)) ⟨l, vs, rfl, .inl (.inl ?_), ?_⟩⟩⟩
  · rw [hide_out fun z => (rs.mono s).dom l (reg_sub l z) nl, upd_same]
  · exact RpAll.mono (hide_same (same_upd nl)) (RpAll.mono (hide_mono reg_sub) r2)
theorem f_cat {ma mb : Res (List T)} (ha : LG X W ρ a ma) (hb : LG X W ρ b mb) : FG X W ρ (.BinOp a .Add b pos) (ma.bind fun xs => mb.bind fun ys => guardR (decide (xs.length + ys.length ≤ sizeLine)) (.ok (xs ++ ys))) := by
  obtain ⟨ta, pa, qa⟩ := ha.ex
  obtain ⟨tb, pb, qb⟩ := hb.ex
  refine ⟨_, pe_op op_cat pa pb, fun S own σ H Q rs h => qa S own σ H _ rs (h.bind.imp (fun xs hx H1 l vs s1 r1 r2 => qb S own σ H1 _ (rs.mono s1) (hx.bind.imp (fun ys hy H2 k us s2 r3 r4 => ?_) fun _ z => z.mono s1)) fun _ z => z)⟩
  obtain ⟨h1, hy⟩ := hy.guard
  have s := s1.trans s2
  refine ⟨l, k, vs, us, rfl, rfl, s2 _ _ r1, r3, by rw [r2.length, r4.length]; exact of_decide_eq_true h1, fun p np => hy (upd H2 p (.lst (vs ++ us))) p _ (s.trans (same_upd np)) (s.free np) upd_same ?_⟩
  rw [hide_new np ((rs.mono s).fresh np)]
  exact (RpAll.mono (hide_same s2) r2).append r4
theorem RpAll.rep {K : PySem.W.Frag} {H : Hp} {vs : List V} {xs : List T} (r : RpAll K H vs xs) : ∀ k : Nat, RpAll K H (List.replicate k vs).flatten (List.replicate k xs).flatten
  | 0 => .nil
  | k + 1 => by
    rw [List.replicate_succ, List.replicate_succ, List.flatten_cons, List.flatten_cons]
    exact r.append (RpAll.rep r k)
def repM {α : Type} (xs : List α) (k : Int) : Res (List α) := guardR (decide (-(2 ^ 63) ≤ k) && (decide (k < 2 ^ 63) && decide (xs.length * k.toNat ≤ sizeLine))) (.ok (List.replicate k.toNat xs).flatten)
theorem f_rep {ma : Res (List T)} {mb : Res Int} (ha : LG X W ρ a ma) (hb : EG X W true ρ b mb) : FG X W ρ (.BinOp a .Mult b pos) (ma.bind fun xs => mb.bind fun k => repM xs k) := by
  obtain ⟨ta, pa, qa⟩ := ha.ex
  obtain ⟨tb, pb, qb⟩ := hb.ex
  refine ⟨_, pe_op op_rep pa pb, fun S own σ H Q rs h => ltwo_run (R' := fun v u H2 => rRep v u H2 Q) qa qb rs h fun xs k l vs u H2 s r1 r2 r3 hp => ?_⟩
  obtain ⟨h1, hp⟩ := hp.guard
  simp only [Bool.and_eq_true, decide_eq_true_eq] at h1
  refine ⟨l, k, vs, rfl, r3, r1, h1.1, h1.2.1, by rw [r2.length]; exact h1.2.2, fun p np => hp (upd H2 p (.lst (List.replicate k.toNat vs).flatten)) p _ (s.trans (same_upd np)) (s.free np) upd_same ?_⟩
  rw [hide_new np ((rs.mono s).fresh np)]
  exact RpAll.rep r2 _
end
end Py

set_option Elab.async false
set_option linter.all false
set_option maxRecDepth 100000
set_option maxHeartbeats 1000000
/-! Py, part D: statements, loops, comprehensions, defs. -/
namespace Py
open PySem PySem.Spec L2
open Rp (rp)

/-! ### slots set, forgotten, let go -/
inductive Wk : List Slot → List Slot → Prop where
  | nil : Wk [] []
  | s {x : Slot} {ρ ρ' : List Slot} : Wk ρ ρ' → Wk (x :: ρ) (x :: ρ')
  | n {x : Slot} {ρ ρ' : List Slot} : Wk ρ ρ' → Wk (x :: ρ) (.non :: ρ')
theorem Wk.refl : ∀ ρ : List Slot, Wk ρ ρ
  | [] => .nil
  | _ :: r => .s (Wk.refl r)
theorem Rs.wk {K : PySem.W.Frag} {Hs H : Hp} {ρ ρ' : List Slot} (w : Wk ρ ρ') : ∀ {σ : St} {ads : List Addr}, Rs K Hs H ρ σ ads → ∃ ads', Rs K Hs H ρ' σ ads' ∧ ads'.Sublist ads := by
  induction w with
  | nil => intro σ ads r; exact ⟨ads, r, List.Sublist.refl _⟩
  | @s x ρ ρ' _ ih =>
    intro σ ads r
    cases r with
    | non r => obtain ⟨a, h1, h2⟩ := ih r; exact ⟨a, .non h1, h2⟩
    | val h r => obtain ⟨a, h1, h2⟩ := ih r; exact ⟨a, .val h h1, h2⟩
    | own h0 h1 h2 r => obtain ⟨a, q1, q2⟩ := ih r; exact ⟨_, .own h0 h1 h2 q1, q2.cons₂ _⟩
  | @n x ρ ρ' _ ih =>
    intro σ ads r
    cases r with
    | non r => obtain ⟨a, h1, h2⟩ := ih r; exact ⟨a, .non h1, h2⟩
    | val h r => obtain ⟨a, h1, h2⟩ := ih r; exact ⟨a, .non h1, h2⟩
    | own h0 h1 h2 r => obtain ⟨a, q1, q2⟩ := ih r; exact ⟨a, .non q1, q2.cons _⟩
theorem RS.wk {K : PySem.W.Frag} {S own : List Addr} {ρ ρ' : List Slot} {σ : St} {H : Hp} (w : Wk ρ ρ') (r : RS K S ρ σ H own) : RS K S ρ' σ H own := by
  obtain ⟨⟨ads, h1, h2, h3⟩, h4, h5⟩ := r
  obtain ⟨ads', q1, q2⟩ := h1.wk w
  exact ⟨⟨ads', q1, h2.sublist q2, fun a ha => h3 a (q2.subset ha)⟩, h4, h5⟩
theorem Rs.set {K : PySem.W.Frag} {Hs H : Hp} {T : Type} [Rp T] {v : V} {x : T} (h : rp K Hs v x) {ρ : List Slot} {σ : St} {ads : List Addr} (r : Rs K Hs H ρ σ ads) : ∀ i : Nat, ∃ ads', Rs K Hs H (ρ.set i (.val T x)) (σ.set i (some v)) ads' ∧ ads'.Sublist ads := by
  induction r with
  | nil => intro i; exact ⟨[], .nil, List.Sublist.refl _⟩
  | non r ih =>
    intro i
    cases i with
    | zero => exact ⟨_, .val h r, List.Sublist.refl _⟩
    | succ i => obtain ⟨a, q1, q2⟩ := ih i; exact ⟨a, .non q1, q2⟩
  | val h1 r ih =>
    intro i
    cases i with
    | zero => exact ⟨_, .val h r, List.Sublist.refl _⟩
    | succ i => obtain ⟨a, q1, q2⟩ := ih i; exact ⟨a, .val h1 q1, q2⟩
  | own h0 h1 h2 r ih =>
    intro i
    cases i with
    | zero => exact ⟨_, .val h r, List.sublist_cons_self _ _⟩
    | succ i => obtain ⟨a, q1, q2⟩ := ih i; exact ⟨_, .own h0 h1 h2 q1, q2.cons₂ _⟩
theorem RS.set {K : PySem.W.Frag} {S own : List Addr} {ρ : List Slot} {σ : St} {H : Hp} {T : Type} [Rp T] {v : V} {x : T} (r : RS K S ρ σ H own) (h : rp K (hide (S ++ own) H) v x) (i : Nat) : RS K S (ρ.set i (.val T x)) (σ.set i (some v)) H own := by
  obtain ⟨⟨ads, h1, h2, h3⟩, h4, h5⟩ := r
  obtain ⟨ads', q1, q2⟩ := Rs.set h h1 i
  exact ⟨⟨ads', q1, h2.sublist q2, fun a ha => h3 a (q2.subset ha)⟩, h4, h5⟩
theorem Rs.setOwn {K : PySem.W.Frag} {Hs H : Hp} {T : Type} [Rp T] {a : Addr} {vs : List V} {xs : List T} (e : H a = some (.lst vs)) (h : RpAll K Hs vs xs) {ρ : List Slot} {σ : St} {ads : List Addr} (r : Rs K Hs H ρ σ ads) : ∀ i : Nat, i < ρ.length → a ∉ ads → ads.Nodup →
    ∃ ads', Rs K Hs H (ρ.set i (.own T none xs)) (σ.set i (some (.ref a))) ads' ∧ ads'.Nodup ∧ ∀ b ∈ ads', b = a ∨ b ∈ ads := by
  have hno : ∀ b, (none : Option Addr) = some b → b = a := fun _ z => nomatch z
  induction r with
  | nil => intro i hi; exact absurd hi (Nat.not_lt_zero _)
  | non r ih =>
    intro i hi hn nd
    cases i with
    | zero => exact ⟨_, .own hno e h r, List.nodup_cons.mpr ⟨hn, nd⟩, fun b hb => (List.mem_cons.mp hb).imp id id⟩
    | succ i => obtain ⟨as, q1, q2, q3⟩ := ih i (Nat.lt_of_succ_lt_succ hi) hn nd; exact ⟨as, .non q1, q2, q3⟩
  | val h1 r ih =>
    intro i hi hn nd
    cases i with
    | zero => exact ⟨_, .own hno e h r, List.nodup_cons.mpr ⟨hn, nd⟩, fun b hb => (List.mem_cons.mp hb).imp id id⟩
    | succ i => obtain ⟨as, q1, q2, q3⟩ := ih i (Nat.lt_of_succ_lt_succ hi) hn nd; exact ⟨as, .val h1 q1, q2, q3⟩
  | own h0 h1 h2 r ih =>
    intro i hi hn nd
    cases i with
    | zero => exact ⟨_, .own hno e h r, List.nodup_cons.mpr ⟨fun z => hn (List.mem_cons_of_mem _ z), (List.nodup_cons.mp nd).2⟩, fun b hb => (List.mem_cons.mp hb).imp id fun z => List.mem_cons_of_mem _ z⟩
    | succ i =>
      obtain ⟨as, q1, q2, q3⟩ := ih i (Nat.lt_of_succ_lt_succ hi) (fun z => hn (List.mem_cons_of_mem _ z)) (List.nodup_cons.mp nd).2
      refine ⟨_, .own h0 h1 h2 q1, List.nodup_cons.mpr ⟨fun z => ?_, q2⟩, fun b hb => ?_⟩
      · rcases q3 _ z with z | z
        · exact hn (z ▸ List.mem_cons_self)
        · exact (List.nodup_cons.mp nd).1 z
      · rcases List.mem_cons.mp hb with z | z
        · exact .inr (z ▸ List.mem_cons_self)
        · exact (q3 b z).imp id fun z => List.mem_cons_of_mem _ z
theorem same_hide_new {S own : List Addr} {H H' : Hp} {a : Addr} (s : Same H H') (na : H a = none) : Same (hide (S ++ own) H) (hide (S ++ a :: own) H') := fun b o e => by
  obtain ⟨h1, h2⟩ := hide_some e
  have hb : b ≠ a := fun z => by rw [z, na] at h2; cases h2
  rw [hide_out, s b o h2]
  intro z
  rcases List.mem_append.mp z with z | z
  · exact h1 (List.mem_append_left _ z)
  · rcases List.mem_cons.mp z with z | z
    · exact hb z
    · exact h1 (List.mem_append_right _ z)
/-- a new list is kept in slot i -/
theorem RS.setOwn {K : PySem.W.Frag} {S own : List Addr} {ρ : List Slot} {σ : St} {H H' : Hp} {T : Type} [Rp T] {a : Addr} {vs : List V} {xs : List T} (r : RS K S ρ σ H own) (s : Same H H') (na : H a = none) (e : H' a = some (.lst vs)) (h : RpAll K (hide (a :: (S ++ own)) H') vs xs)
    (i : Nat) (hi : i < ρ.length) : RS K S (ρ.set i (.own T none xs)) (σ.set i (some (.ref a))) H' (a :: own) := by
  obtain ⟨⟨ads, h1, h2, h3⟩, h4, h5⟩ := r
  have nS : a ∉ S ++ own := fun z => h5 a z na
  have h1' := h1.mono (same_hide_new s na) fun b _ o q => s b o q
  have hh : RpAll K (hide (S ++ a :: own) H') vs xs := by
    refine RpAll.mono (hide_mono fun b hb => ?_) h
    rcases List.mem_append.mp hb with z | z
    · exact List.mem_cons_of_mem _ (List.mem_append_left _ z)
    · rcases List.mem_cons.mp z with z | z
      · exact z ▸ List.mem_cons_self
      · exact List.mem_cons_of_mem _ (List.mem_append_right _ z)
  obtain ⟨ads', q1, q2, q3⟩ := Rs.setOwn e hh h1' i hi (fun z => nS (List.mem_append_right _ (h3 a z))) h2
  refine ⟨⟨ads', q1, q2, fun b hb => ?_⟩, fun b hb => ?_, fun b hb => ?_⟩
  · rcases q3 b hb with z | z
    · exact List.mem_cons.mpr (.inl z)
    · exact List.mem_cons_of_mem _ (h3 b z)
  · rcases List.mem_cons.mp hb with z | z
    · exact z ▸ fun q => nS (List.mem_append_left _ q)
    · exact h4 b z
  · rcases List.mem_append.mp hb with z | z
    · exact dom_same s (h5 b (List.mem_append_left _ z))
    · rcases List.mem_cons.mp z with z | z
      · rw [z, e]; intro q; cases q
      · exact dom_same s (h5 b (List.mem_append_right _ z))
/-- the kept list of slot i is written -/
theorem Rs.write {K : PySem.W.Frag} {Hs H : Hp} {T : Type} [Rp T] {vs' : List V} {ys : List T} (h : RpAll K Hs vs' ys) {ρ : List Slot} {σ : St} {ads : List Addr} (r : Rs K Hs H ρ σ ads) : ∀ {i : Nat} {ao : Option Addr} {xs : List T} {a : Addr}, ρ[i]? = some (.own T ao xs) → σ[i]? = some (some (.ref a)) →
    ads.Nodup → Rs K Hs (upd H a (.lst vs')) (ρ.set i (.own T ao ys)) σ ads := by
  induction r with
  | nil => intro i ao xs a e1; cases e1
  | non r ih =>
    intro i ao xs a e1 e2 nd
    cases i with
    | zero => cases e1
    | succ i => exact .non (ih (i := i) e1 e2 nd)
  | val q r ih =>
    intro i ao xs a e1 e2 nd
    cases i with
    | zero => cases e1
    | succ i => exact .val q (ih (i := i) e1 e2 nd)
  | @own ρ σ as T' inst ao' xs' b ws h0 h1 h2 r ih =>
    intro i ao xs a e1 e2 nd
    cases i with
    | zero =>
      cases e1
      cases e2
      refine .own h0 upd_same h (r.mono (Same.refl _) fun b hb o q => ?_)
      rw [upd_ne (fun z => (List.nodup_cons.mp nd).1 (by rw [← z]; exact hb))]
      exact q
    | succ i =>
      have hb : b ≠ a := by
        obtain ⟨a2, _, z1, z2, _⟩ := r.own_at (show ρ[i]? = _ from e1)
        have : a2 = a := by
          have z3 : σ[i]? = some (some (.ref a)) := e2
          rw [z1] at z3
          cases z3
          rfl
        subst this
        exact fun z => (List.nodup_cons.mp nd).1 (z ▸ z2)
      exact .own h0 (by rw [upd_ne hb]; exact h1) h2 (ih (i := i) e1 e2 (List.nodup_cons.mp nd).2)
theorem RS.write {K : PySem.W.Frag} {S own : List Addr} {ρ : List Slot} {σ : St} {H : Hp} {T : Type} [Rp T] {a : Addr} {vs' : List V} {xs ys : List T} {ao : Option Addr} {i : Nat} (r : RS K S ρ σ H own) (e1 : ρ[i]? = some (.own T ao xs)) (e2 : σ[i]? = some (some (.ref a)))
    (h : RpAll K (hide (S ++ own) H) vs' ys) : RS K S (ρ.set i (.own T ao ys)) σ (upd H a (.lst vs')) own ∧ Ext own H own (upd H a (.lst vs')) := by
  obtain ⟨⟨ads, h1, h2, h3⟩, h4, h5⟩ := r
  obtain ⟨a2, _, z1, z2, _⟩ := h1.own_at e1
  have : a2 = a := by
    rw [z1] at e2
    cases e2
    rfl
  subst this
  have hin : a2 ∈ S ++ own := List.mem_append_right _ (h3 _ z2)
  have hd : ∀ b, H b ≠ none → upd H a2 (.lst vs') b ≠ none := fun b hb => by
    by_cases z : b = a2
    · subst z; rw [upd_same]; intro q; cases q
    · rw [upd_ne z]; exact hb
  refine ⟨⟨⟨ads, ?_, h2, h3⟩, h4, fun b hb => hd b (h5 b hb)⟩, fun b o e hb => ?_, hd, fun b hb => .inl hb⟩
  · rw [hide_upd_in hin]
    exact Rs.write h h1 e1 e2 h2
  · rw [upd_ne (fun z => hb (by rw [z]; exact h3 _ z2))]
    exact e
/-- a kept list is let go: from now on it is only read -/
theorem Rs.freeze {K : PySem.W.Frag} {Hs H : Hp} {T : Type} [Rp T] {ρ : List Slot} {σ : St} {ads : List Addr} (r : Rs K Hs H ρ σ ads) : ∀ {i : Nat} {ao : Option Addr} {xs : List T}, ρ[i]? = some (.own T ao xs) → ads.Nodup →
    ∃ a vs ads', a ∈ ads ∧ H a = some (.lst vs) ∧ RpAll K Hs vs xs ∧ ads'.Nodup ∧ (∀ b ∈ ads', b ∈ ads ∧ b ≠ a) ∧ ∀ Hs', Same Hs Hs' → Hs' a = some (.lst vs) → Rs K Hs' H (ρ.set i (.val (List T) xs)) σ ads' := by
  induction r with
  | nil => intro i ao xs e1; cases e1
  | non r ih =>
    intro i ao xs e1 nd
    cases i with
    | zero => cases e1
    | succ i =>
      obtain ⟨a, vs, ads', q1, q2, q3, q4, q5, q6⟩ := ih (i := i) e1 nd
      exact ⟨a, vs, ads', q1, q2, q3, q4, q5, fun Hs' s e => .non (q6 Hs' s e)⟩
  | val h r ih =>
    intro i ao xs e1 nd
    cases i with
    | zero => cases e1
    | succ i =>
      obtain ⟨a, vs, ads', q1, q2, q3, q4, q5, q6⟩ := ih (i := i) e1 nd
      exact ⟨a, vs, ads', q1, q2, q3, q4, q5, fun Hs' s e => .val (Rp.mono s h) (q6 Hs' s e)⟩
  | @own ρ σ as T' inst ao' xs' b ws h0 h1 h2 r ih =>
    intro i ao xs e1 nd
    cases i with
    | zero =>
      cases e1
      exact ⟨_, _, _, List.mem_cons_self, h1, h2, (List.nodup_cons.mp nd).2, fun b hb => ⟨List.mem_cons_of_mem _ hb, fun z => (List.nodup_cons.mp nd).1 (z ▸ hb)⟩, fun Hs' s e => .val ⟨_, _, rfl, e, RpAll.mono s h2⟩ (r.mono s fun _ _ _ q => q)⟩
    | succ i =>
      obtain ⟨a, vs, ads', q1, q2, q3, q4, q5, q6⟩ := ih (i := i) e1 (List.nodup_cons.mp nd).2
      refine ⟨a, vs, b :: ads', List.mem_cons_of_mem _ q1, q2, q3, List.nodup_cons.mpr ⟨fun z => (List.nodup_cons.mp nd).1 (q5 _ z).1, q4⟩, fun c hc => ?_, fun Hs' s e => .own h0 h1 (RpAll.mono s h2) (q6 Hs' s e)⟩
      rcases List.mem_cons.mp hc with z | z
      · exact ⟨z ▸ List.mem_cons_self, z ▸ fun y => (List.nodup_cons.mp nd).1 (y ▸ q1)⟩
      · exact ⟨List.mem_cons_of_mem _ (q5 c z).1, (q5 c z).2⟩
theorem RS.freeze {K : PySem.W.Frag} {S own : List Addr} {ρ : List Slot} {σ : St} {H : Hp} {T : Type} [Rp T] {xs : List T} {ao : Option Addr} {i : Nat} (r : RS K S ρ σ H own) (e1 : ρ[i]? = some (.own T ao xs)) :
    ∃ own', RS K S (ρ.set i (.val (List T) xs)) σ H own' ∧ Ext own H own' H := by
  obtain ⟨⟨ads, h1, h2, h3⟩, h4, h5⟩ := r
  obtain ⟨a, vs, ads', q1, q2, q3, q4, q5, q6⟩ := Rs.freeze h1 e1 h2
  have hsub : ∀ b, b ∈ S ++ own.filter (fun b => decide (b ≠ a)) → b ∈ S ++ own := fun b hb => by
    rcases List.mem_append.mp hb with z | z
    · exact List.mem_append_left _ z
    · exact List.mem_append_right _ (List.mem_filter.mp z).1
  refine ⟨own.filter (fun b => decide (b ≠ a)), ⟨⟨ads', q6 _ (hide_mono hsub) ?_, q4, fun b hb => ?_⟩, fun b hb => h4 b (List.mem_filter.mp hb).1, fun b hb => h5 b (hsub b hb)⟩, fun b o e _ => e, fun b h => h, fun b hb => .inl (List.mem_filter.mp hb).1⟩
  · rw [hide_out]
    · exact q2
    · intro z
      rcases List.mem_append.mp z with z | z
      · exact h4 a (h3 a q1) z
      · exact of_decide_eq_true (List.mem_filter.mp z).2 rfl
  · exact List.mem_filter.mpr ⟨h3 b (q5 b hb).1, decide_eq_true (q5 b hb).2⟩

/-! ### ways out of statements -/
inductive Ctl (S B R : Type) where
  | nx (s : S)
  | rt (r : R)
  | bk (b : B)
  | ct (b : B)
/-- what stands at a return: the slots (kept arguments), the value -/
structure Rt (R : Type) where
  sl : R → List Slot
  vl : PySem.W.Frag → List Addr → List Addr → Hp → V → R → Prop
def WkO (ρ : List Slot) : Option (List Slot) → Prop
  | none => True
  | some r => Wk ρ r
section
variable {S₁ B R : Type}
def ErrS (K : PySem.W.Frag) (W : WX) (S own : List Addr) (H : Hp) (ρe : Option (List Slot)) (e : Ex) : Prop :=
  ∀ σ' H' own' c d, Ext own H own' H' → (∀ r, ρe = some r → RS K S r σ' H' own') → ExR K (hide (S ++ own') H') c d e → W c d σ' H'
def NxP (K : PySem.W.Frag) (S own : List Addr) (H : Hp) (k : St → Hp → Prop) (n : S₁ → List Slot) (s : S₁) : Prop := ∀ σ' H' own', Ext own H own' H' → RS K S (n s) σ' H' own' → k σ' H'
def RtP (K : PySem.W.Frag) (S own : List Addr) (H : Hp) (k : VK) (Z : Rt R) (r : R) : Prop := ∀ v σ' H' own', Ext own H own' H' → RS K S (Z.sl r) σ' H' own' → Z.vl K S own' H' v r → k v H'
def CtlP (K : PySem.W.Frag) (S own : List Addr) (H : Hp) (D : Ends) (n : S₁ → List Slot) (b : B → List Slot) (Z : Rt R) : Ctl S₁ B R → Prop
  | .nx s => NxP K S own H D.nx n s
  | .rt r => RtP K S own H D.rt Z r
  | .bk x => NxP K S own H D.bk b x
  | .ct x => NxP K S own H D.ct b x
abbrev SNp (X : Cx) (W : WX) (ρe : Option (List Slot)) (ρ : List Slot) (t : TS) (n : S₁ → List Slot) (m : Res S₁) : Prop :=
  ∀ (S own : List Addr) (σ : St) (H : Hp) (D : Ends), RS X.K S ρ σ H own → Post m (NxP X.K S own H D.nx n) (ErrS X.K W S own H ρe) → t D σ H
abbrev SRp (X : Cx) (W : WX) (ρe : Option (List Slot)) (ρ : List Slot) (t : TS) (Z : Rt R) (m : Res R) : Prop :=
  ∀ (S own : List Addr) (σ : St) (H : Hp) (D : Ends), RS X.K S ρ σ H own → Post m (RtP X.K S own H D.rt Z) (ErrS X.K W S own H ρe) → t D σ H
abbrev SCp (X : Cx) (W : WX) (ρe : Option (List Slot)) (ρ : List Slot) (t : TS) (n : S₁ → List Slot) (b : B → List Slot) (Z : Rt R) (m : Res (Ctl S₁ B R)) : Prop :=
  ∀ (S own : List Addr) (σ : St) (H : Hp) (D : Ends), RS X.K S ρ σ H own → Post m (CtlP X.K S own H D n b Z) (ErrS X.K W S own H ρe) → t D σ H
/-- one statement that falls through -/
structure N1 (X : Cx) (W : WX) (ρe : Option (List Slot)) (ρ : List Slot) (st : Stmt) (n : S₁ → List Slot) (m : Res S₁) : Prop where
  ex : ∃ t, PS X st t ∧ SNp X W ρe ρ t n m
structure C1 (X : Cx) (W : WX) (ρe : Option (List Slot)) (ρ : List Slot) (st : Stmt) (n : S₁ → List Slot) (b : B → List Slot) (Z : Rt R) (m : Res (Ctl S₁ B R)) : Prop where
  ex : ∃ t, PS X st t ∧ SCp X W ρe ρ t n b Z m
/-- blocks: that fall through, that return, of any way out -/
structure SN (X : Cx) (W : WX) (ρe : Option (List Slot)) (ρ : List Slot) (sts : List Stmt) (n : S₁ → List Slot) (m : Res S₁) : Prop where
  ex : ∃ t, PSs X sts t ∧ SNp X W ρe ρ t n m
structure SR (X : Cx) (W : WX) (ρe : Option (List Slot)) (ρ : List Slot) (sts : List Stmt) (Z : Rt R) (m : Res R) : Prop where
  ex : ∃ t, PSs X sts t ∧ SRp X W ρe ρ t Z m
structure SC (X : Cx) (W : WX) (ρe : Option (List Slot)) (ρ : List Slot) (sts : List Stmt) (n : S₁ → List Slot) (b : B → List Slot) (Z : Rt R) (m : Res (Ctl S₁ B R)) : Prop where
  ex : ∃ t, PSs X sts t ∧ SCp X W ρe ρ t n b Z m
end
section
variable {S₁ S₂ B R T A : Type} [Rp T] [Rp A] {X : Cx} {W : WX} {g : Bool} {ρe : Option (List Slot)} {ρ ρ' : List Slot} {st : Stmt} {rest sts : List Stmt} {n n1 : S₁ → List Slot} {n2 : S₂ → List Slot} {b : B → List Slot} {Z : Rt R} {e a : Expr} {pos : Pos} {lv : Nat}
  {S own own1 : List Addr} {σ : St} {H H1 : Hp} {K : PySem.W.Frag} {ex : Ex}
theorem ErrS.mono (h : ErrS K W S own H ρe ex) (x : Ext own H own1 H1) : ErrS K W S own1 H1 ρe ex := fun σ' H' own' c d x' r q => h σ' H' own' c d (x.trans x') r q
theorem ErrS.toX (h : ErrS X.K W S own H ρe ex) (rs : RS X.K S ρ σ H own) (w : WkO ρ ρe) : ErrX X W S own σ H ex := fun H' c d s q => h σ H' own c d (Ext.of_same s) (fun r e => by
  subst e
  exact (rs.mono s).wk w) q
theorem NxP.mono {k : St → Hp → Prop} {s : S₁} (h : NxP K S own H k n s) (x : Ext own H own1 H1) : NxP K S own1 H1 k n s := fun σ' H' own' x' r => h σ' H' own' (x.trans x') r
theorem RtP.mono {k : VK} {r : R} (h : RtP K S own H k Z r) (x : Ext own H own1 H1) : RtP K S own1 H1 k Z r := fun v σ' H' own' x' q1 q2 => h v σ' H' own' (x.trans x') q1 q2
theorem CtlP.mono {D : Ends} {z : Ctl S₁ B R} (h : CtlP K S own H D n b Z z) (x : Ext own H own1 H1) : CtlP K S own1 H1 D n b Z z := by
  cases z with
  | nx s => exact NxP.mono h x
  | rt r => exact RtP.mono h x
  | bk s => exact NxP.mono h x
  | ct s => exact NxP.mono h x
/-- an expression within a statement -/
theorem in_stmt {te : TE} {m : Res A} {f : A → Res R} {P : R → Prop} {R' : V → Hp → Prop} (q : EGp X W g ρ te m) (rs : RS X.K S ρ σ H own) (w : WkO ρ ρe) (h : Post (m.bind f) P (ErrS X.K W S own H ρe))
    (k : ∀ x v H', Same H H' → rp X.K (hide (reg g S own) H') v x → Post (f x) P (ErrS X.K W S own H ρe) → R' v H') : te σ H R' :=
  q S own σ H _ rs (h.bind.imp (fun x hx H1 v s1 r1 => k x v H1 s1 r1 hx) fun _ z => z.toX rs w)

/-! ### blocks -/
theorem b_nil {s : S₁} (w : Wk ρ (n s)) : SN X W ρe ρ [] n (.ok s) := ⟨_, pss_nil, fun S own σ H D rs h => h σ H own Ext.refl (rs.wk w)⟩
theorem b_cons {m1 : Res S₂} {m2 : S₂ → Res S₁} (h1 : N1 X W ρe ρ st n2 m1) (h2 : ∀ s, SN X W ρe (n2 s) rest n (m2 s)) : SN X W ρe ρ (st :: rest) n (m1.bind m2) := by
  obtain ⟨t1, p1, q1⟩ := h1.ex
  have dead : PSs X rest tNever := pss_never
  cases m1 with
  | bad => exact ⟨_, pss_cons p1 dead, fun S own σ H D rs h => h.elim⟩
  | err z => exact ⟨_, pss_cons p1 dead, fun S own σ H D rs h => q1 S own σ H _ rs h⟩
  | ok s =>
    obtain ⟨t2, p2, q2⟩ := (h2 s).ex
    exact ⟨_, pss_cons p1 p2, fun S own σ H D rs h => q1 S own σ H _ rs fun σ1 H1 own1 x1 r1 => q2 S own1 σ1 H1 D r1 (Post.imp h (fun _ z => z.mono x1) fun _ z => z.mono x1)⟩
theorem r_cons {m1 : Res S₂} {m2 : S₂ → Res R} (h1 : N1 X W ρe ρ st n2 m1) (h2 : ∀ s, SR X W ρe (n2 s) rest Z (m2 s)) : SR X W ρe ρ (st :: rest) Z (m1.bind m2) := by
  obtain ⟨t1, p1, q1⟩ := h1.ex
  have dead : PSs X rest tNever := pss_never
  cases m1 with
  | bad => exact ⟨_, pss_cons p1 dead, fun S own σ H D rs h => h.elim⟩
  | err z => exact ⟨_, pss_cons p1 dead, fun S own σ H D rs h => q1 S own σ H _ rs h⟩
  | ok s =>
    obtain ⟨t2, p2, q2⟩ := (h2 s).ex
    exact ⟨_, pss_cons p1 p2, fun S own σ H D rs h => q1 S own σ H _ rs fun σ1 H1 own1 x1 r1 => q2 S own1 σ1 H1 D r1 (Post.imp h (fun _ z => z.mono x1) fun _ z => z.mono x1)⟩
theorem c_cons {m1 : Res S₂} {m2 : S₂ → Res (Ctl S₁ B R)} (h1 : N1 X W ρe ρ st n2 m1) (h2 : ∀ s, SC X W ρe (n2 s) rest n b Z (m2 s)) : SC X W ρe ρ (st :: rest) n b Z (m1.bind m2) := by
  obtain ⟨t1, p1, q1⟩ := h1.ex
  have dead : PSs X rest tNever := pss_never
  cases m1 with
  | bad => exact ⟨_, pss_cons p1 dead, fun S own σ H D rs h => h.elim⟩
  | err z => exact ⟨_, pss_cons p1 dead, fun S own σ H D rs h => q1 S own σ H _ rs h⟩
  | ok s =>
    obtain ⟨t2, p2, q2⟩ := (h2 s).ex
    exact ⟨_, pss_cons p1 p2, fun S own σ H D rs h => q1 S own σ H _ rs fun σ1 H1 own1 x1 r1 => q2 S own1 σ1 H1 D r1 (Post.imp h (fun _ z => z.mono x1) fun _ z => z.mono x1)⟩
/-- a statement of any way out, then a block -/
def thenC (m : Res (Ctl S₂ B R)) (f : S₂ → Res (Ctl S₁ B R)) : Res (Ctl S₁ B R) := m.bind fun
  | .nx s => f s
  | .rt r => .ok (.rt r)
  | .bk x => .ok (.bk x)
  | .ct x => .ok (.ct x)
def thenR (m : Res (Ctl S₂ Empty R)) (f : S₂ → Res R) : Res R := m.bind fun
  | .nx s => f s
  | .rt r => .ok r
  | .bk x => nomatch x
  | .ct x => nomatch x
theorem cc_cons {m1 : Res (Ctl S₂ B R)} {m2 : S₂ → Res (Ctl S₁ B R)} (h1 : C1 X W ρe ρ st n2 b Z m1) (h2 : ∀ s, SC X W ρe (n2 s) rest n b Z (m2 s)) : SC X W ρe ρ (st :: rest) n b Z (thenC m1 m2) := by
  obtain ⟨t1, p1, q1⟩ := h1.ex
  have dead : PSs X rest tNever := pss_never
  cases m1 with
  | bad => exact ⟨_, pss_cons p1 dead, fun S own σ H D rs h => h.elim⟩
  | err z => exact ⟨_, pss_cons p1 dead, fun S own σ H D rs h => q1 S own σ H _ rs h⟩
  | ok z =>
    cases z with
    | nx s =>
      obtain ⟨t2, p2, q2⟩ := (h2 s).ex
      exact ⟨_, pss_cons p1 p2, fun S own σ H D rs h => q1 S own σ H _ rs fun σ1 H1 own1 x1 r1 => q2 S own1 σ1 H1 D r1 (Post.imp (show Post (m2 s) _ _ from h) (fun _ z => CtlP.mono z x1) fun _ z => z.mono x1)⟩
    | rt r => exact ⟨_, pss_cons p1 dead, fun S own σ H D rs h => q1 S own σ H _ rs h⟩
    | bk r => exact ⟨_, pss_cons p1 dead, fun S own σ H D rs h => q1 S own σ H _ rs h⟩
    | ct r => exact ⟨_, pss_cons p1 dead, fun S own σ H D rs h => q1 S own σ H _ rs h⟩
theorem rc_cons {b : Empty → List Slot} {m1 : Res (Ctl S₂ Empty R)} {m2 : S₂ → Res R} (h1 : C1 X W ρe ρ st n2 b Z m1) (h2 : ∀ s, SR X W ρe (n2 s) rest Z (m2 s)) : SR X W ρe ρ (st :: rest) Z (thenR m1 m2) := by
  obtain ⟨t1, p1, q1⟩ := h1.ex
  have dead : PSs X rest tNever := pss_never
  cases m1 with
  | bad => exact ⟨_, pss_cons p1 dead, fun S own σ H D rs h => h.elim⟩
  | err z => exact ⟨_, pss_cons p1 dead, fun S own σ H D rs h => q1 S own σ H _ rs h⟩
  | ok z =>
    cases z with
    | nx s =>
      obtain ⟨t2, p2, q2⟩ := (h2 s).ex
      exact ⟨_, pss_cons p1 p2, fun S own σ H D rs h => q1 S own σ H _ rs fun σ1 H1 own1 x1 r1 => q2 S own1 σ1 H1 D r1 (Post.imp (show Post (m2 s) _ _ from h) (fun _ z => z.mono x1) fun _ z => z.mono x1)⟩
    | rt r => exact ⟨_, pss_cons p1 dead, fun S own σ H D rs h => q1 S own σ H _ rs h⟩
    | bk r => exact nomatch r
    | ct r => exact nomatch r
theorem c_nil {s : S₁} (w : Wk ρ (n s)) : SC X W ρe ρ [] n b Z (.ok (.nx s)) := ⟨_, pss_nil, fun S own σ H D rs h => h σ H own Ext.refl (rs.wk w)⟩
theorem c_break {x : B} (w : Wk ρ (b x)) : SC X W ρe ρ (.Break pos :: rest) n b Z (.ok (.bk x)) := ⟨_, pss_cons ps_break pss_never, fun S own σ H D rs h => h σ H own Ext.refl (rs.wk w)⟩
theorem c_cont {x : B} (w : Wk ρ (b x)) : SC X W ρe ρ (.Continue pos :: rest) n b Z (.ok (.ct x)) := ⟨_, pss_cons ps_continue pss_never, fun S own σ H D rs h => h σ H own Ext.refl (rs.wk w)⟩
/-- a block that returns, as one of any way out -/
theorem SR.c {m : Res R} (h : SR X W ρe ρ sts Z m) : SC X W ρe ρ sts n b Z (m.bind fun r => .ok (.rt r)) := by
  obtain ⟨t, p, q⟩ := h.ex
  exact ⟨t, p, fun S own σ H D rs h => q S own σ H D rs (h.bind.imp (fun _ z => z) fun _ z => z)⟩
theorem SN.c {m : Res S₁} (h : SN X W ρe ρ sts n m) : SC X W ρe ρ sts n b Z (m.bind fun r => .ok (.nx r)) := by
  obtain ⟨t, p, q⟩ := h.ex
  exact ⟨t, p, fun S own σ H D rs h => q S own σ H D rs (h.bind.imp (fun _ z => z) fun _ z => z)⟩

/-! ### letting go ahead of a block -/
theorem b_free (i : Nat) {ao : Option Addr} {xs : List T} {m : Res S₁} (h : SN X W ρe ρ' sts n m) (e : ρ[i]? = some (.own T ao xs) := by rfl) (e' : ρ' = ρ.set i (.val (List T) xs) := by rfl) : SN X W ρe ρ sts n m := by
  obtain ⟨t, p, q⟩ := h.ex
  refine ⟨t, p, fun S own σ H D rs hP => ?_⟩
  obtain ⟨own', r, x⟩ := rs.freeze e
  subst e'
  exact q S own' σ H D r (Post.imp hP (fun _ z => z.mono x) fun _ z => z.mono x)
theorem r_free (i : Nat) {ao : Option Addr} {xs : List T} {m : Res R} (h : SR X W ρe ρ' sts Z m) (e : ρ[i]? = some (.own T ao xs) := by rfl) (e' : ρ' = ρ.set i (.val (List T) xs) := by rfl) : SR X W ρe ρ sts Z m := by
  obtain ⟨t, p, q⟩ := h.ex
  refine ⟨t, p, fun S own σ H D rs hP => ?_⟩
  obtain ⟨own', r, x⟩ := rs.freeze e
  subst e'
  exact q S own' σ H D r (Post.imp hP (fun _ z => z.mono x) fun _ z => z.mono x)
theorem c_free (i : Nat) {ao : Option Addr} {xs : List T} {m : Res (Ctl S₁ B R)} (h : SC X W ρe ρ' sts n b Z m) (e : ρ[i]? = some (.own T ao xs) := by rfl) (e' : ρ' = ρ.set i (.val (List T) xs) := by rfl) : SC X W ρe ρ sts n b Z m := by
  obtain ⟨t, p, q⟩ := h.ex
  refine ⟨t, p, fun S own σ H D rs hP => ?_⟩
  obtain ⟨own', r, x⟩ := rs.freeze e
  subst e'
  exact q S own' σ H D r (Post.imp hP (fun _ z => z.mono x) fun _ z => z.mono x)

/-! ### returns -/
/-- any value -/
def retD (T : Type) [Rp T] : Rt T := ⟨fun _ => [], fun K S own H v x => rp K (hide (S ++ own) H) v x⟩
/-- a new list -/
def retF (T : Type) [Rp T] : Rt (List T) := ⟨fun _ => [], fun K S own H v xs => ∃ a vs, v = .ref a ∧ a ∈ own ∧ H a = some (.lst vs) ∧ RpAll K (hide (S ++ own) H) vs xs⟩
theorem rs_nil (rs : RS K S ρ σ H own) : RS K S [] [] H own := ⟨⟨[], .nil, List.nodup_nil, fun _ z => nomatch z⟩, rs.out, rs.dom⟩
theorem r_ret {m : Res T} (h : EG X W true ρ e m) (w : WkO ρ ρe := by trivial) : SR X W ρe ρ (.Return (some e) pos :: rest) (retD T) m := by
  obtain ⟨t, p, q⟩ := h.ex
  refine ⟨_, pss_cons (ps_ret p) pss_never, fun S own σ H D rs h => ?_⟩
  exact q S own σ H D.rt rs (h.imp (fun x hx H' v s r => hx v [] H' own (Ext.of_same s) (rs_nil (rs.mono s)) r) fun _ z => z.toX rs w)
theorem r_retF {m : Res (List T)} (h : FG X W ρ e m) (w : WkO ρ ρe := by trivial) : SR X W ρe ρ (.Return (some e) pos :: rest) (retF T) m := by
  obtain ⟨t, p, q⟩ := h.ex
  refine ⟨_, pss_cons (ps_ret p) pss_never, fun S own σ H D rs h => ?_⟩
  refine q S own σ H D.rt rs (h.imp (fun x hx H' a vs s na e1 e2 => hx (.ref a) [] H' (a :: own) ⟨fun b o z _ => s b o z, fun b z => dom_same s z, fun b z => ?_⟩ ?_ ⟨a, vs, rfl, List.mem_cons_self, e1, ?_⟩) fun _ z => z.toX rs w)
  · rcases List.mem_cons.mp z with z | z
    · exact .inr (z ▸ na)
    · exact .inl z
  · refine ⟨⟨[], .nil, List.nodup_nil, fun _ z => nomatch z⟩, fun b hb => ?_, fun b hb => ?_⟩
    · rcases List.mem_cons.mp hb with z | z
      · exact z ▸ fun y => rs.dom a (List.mem_append_left _ y) na
      · exact rs.out b z
    · rcases List.mem_append.mp hb with z | z
      · exact dom_same s (rs.dom b (List.mem_append_left _ z))
      · rcases List.mem_cons.mp z with z | z
        · rw [z, e1]; intro y; cases y
        · exact dom_same s (rs.dom b (List.mem_append_right _ z))
  · refine RpAll.mono (hide_mono fun b hb => ?_) e2
    rcases List.mem_append.mp hb with z | z
    · exact List.mem_cons_of_mem _ (List.mem_append_left _ z)
    · rcases List.mem_cons.mp z with z | z
      · exact z ▸ List.mem_cons_self
      · exact List.mem_cons_of_mem _ (List.mem_append_right _ z)
/-- a kept list handed back as new -/
theorem r_retOwn (i : Nat) {x : Str} {ao : Option Addr} {xs : List T} {p2 : Pos} (hr : ρ[i]? = some (Slot.own T ao xs) := by rfl) (hN : X.N[i]? = some x := by rfl) (hv : Vis X.env.scope x := by first | exact Or.inl rfl | exact Or.inr (Or.inl rfl) | exact Or.inr (Or.inr rfl))
    (hd : (x == ("__debug__" : Str)) = false := by decide) (hcd : (x == ("__classdict__" : Str)) = false := by decide) : SR X W ρe ρ (.Return (some (.Name x p2)) pos :: rest) (retF T) (.ok xs) := by
  refine ⟨_, pss_cons (ps_ret (pe_var hN hv hd hcd)) pss_never, fun S own σ H D rs h => ?_⟩
  obtain ⟨ads, r, _, h3⟩ := rs.rs
  obtain ⟨a, vs, e, e1, e2, e3, _⟩ := r.own_at hr
  exact ⟨_, e, h (.ref a) [] H own Ext.refl (rs_nil rs) ⟨a, vs, rfl, h3 a e1, e2, e3⟩⟩
theorem SR.of_eq {m m' : Res R} (h : SR X W ρe ρ sts Z m) (z : m = m') : SR X W ρe ρ sts Z m' := z ▸ h

/-! ### simple statements -/
theorem n_set (i : Nat) {x : Str} {m : Res T} {p2 : Pos} {n3 : T → List Slot} (nd : X.N.Nodup) (h : EG X W true ρ e m) (hn : ∀ v, n3 v = ρ.set i (.val T v) := by intro _; rfl) (w : WkO ρ ρe := by trivial) (hi : X.N[i]? = some x := by rfl) (hx : Loc X.env.scope x := by first | exact Or.inl rfl | exact Or.inr rfl)
    (hs : swapsWith e (some (.Name x p2)) pos.line X.env = pure false := by rfl) (hf : X.fn x = true ∨ X.env.scope.names.lookup x = some .local := by first | exact .inl rfl | exact .inr rfl | assumption) : N1 X W ρe ρ (.Assign [.Name x p2] e pos) n3 m := by
  obtain ⟨t, p, q⟩ := h.ex
  refine ⟨_, ps_set nd hi hx p hs hf, fun S own σ H D rs h => ?_⟩
  refine q S own σ H _ rs (h.imp (fun v hv H' u s r => hv _ H' own (Ext.of_same s) ?_) fun _ z => z.toX rs w)
  rw [hn]
  exact (rs.mono s).set r i
end
end Py

set_option Elab.async false
set_option linter.all false
set_option maxRecDepth 100000
set_option maxHeartbeats 1000000
/-! Py, part E: further statements, loops, comprehensions, calls and defs. -/
namespace Py
open PySem PySem.Spec L2
open Rp (rp)

/-- what a loop walks -/
structure WJ (K : PySem.W.Frag) (B : List Addr) (H0 : Hp) (J : It) {T : Type} [Rp T] (xs : List T) : Prop where
  goes : ∀ i H, i < xs.length → Same (hide B H0) H → J.go i H
  stops : ∀ H, Same (hide B H0) H → J.stop xs.length H
  yields : ∀ i H v H' x B2, xs[i]? = some x → Same (hide B H0) (hide B2 H) → (∀ b ∈ B2, H b ≠ none) → J.yld i H v H' → Same H H' ∧ rp K (hide B2 H') v x
abbrev IJp (X : Cx) (W : WX) (ρ : List Slot) (wi : TI) {T : Type} [Rp T] (m : Res (List T)) : Prop :=
  ∀ (S own : List Addr) (σ : St) (H : Hp) (R : It → Hp → Prop), RS X.K S ρ σ H own → Post m (fun xs => ∀ J H', Same H H' → WJ X.K (S ++ own) H' J xs → R J H') (ErrX X W S own σ H) → wi σ H R
structure IJ (X : Cx) (W : WX) (ρ : List Slot) (tg e : Expr) {T : Type} [Rp T] (m : Res (List T)) : Prop where
  ex : ∃ wi, PI X tg e wi ∧ IJp X W ρ wi m
abbrev GJp (X : Cx) (gt : TG) {T : Type} [Rp T] (u : List Slot → T → List Slot) (js : List Nat) : Prop :=
  ∀ (S own : List Addr) (ρ : List Slot) (σ : St) (H : Hp) (v : V) (x : T) (Q : St → Hp → Prop), RS X.K S ρ σ H own → rp X.K (hide (S ++ own) H) v x → (∀ σ', RS X.K S (u ρ x) σ' H own → (∀ vs : List Nat, (∀ i ∈ js, i ∈ vs) → wipe σ' vs = wipe σ vs) → Q σ' H) → gt v σ H Q
/-- a target: what it makes of the slots; the slots that it sets -/
structure GJ (X : Cx) (tg : Expr) {T : Type} [Rp T] (u : List Slot → T → List Slot) (js : List Nat) : Prop where
  ex : ∃ gt, PG X tg gt ∧ GJp X gt u js
theorem wipe_set {σ : St} {i : Nat} {o : Option V} : ∀ {vs : List Nat}, i ∈ vs → wipe (σ.set i o) vs = wipe σ vs
  | v :: vs, h => by
    show (wipe (σ.set i o) vs).set v none = (wipe σ vs).set v none
    by_cases hi : i ∈ vs
    · rw [wipe_set hi]
    · have hv : i = v := (List.mem_cons.mp h).resolve_right hi
      subst hv
      have aux : ∀ ws : List Nat, i ∉ ws → wipe (σ.set i o) ws = (wipe σ ws).set i o := by
        intro ws
        induction ws with
        | nil => intro _; rfl
        | cons w ws ih =>
          intro hn
          show (wipe (σ.set i o) ws).set w none = ((wipe σ ws).set w none).set i o
          rw [ih fun z => hn (List.mem_cons_of_mem _ z)]
          exact List.set_comm _ _ (fun z => hn (z ▸ List.mem_cons_self))
      rw [aux vs hi, List.set_set]

def forR {T S : Type} (f : S → T → Res S) : List T → S → Res S
  | [], s => .ok s
  | x :: r, s => (f s x).bind fun s' => forR f r s'
def forC {T S B R : Type} (f : S → T → Res (Ctl S S R)) : List T → S → Res (Ctl S B R)
  | [], s => .ok (.nx s)
  | x :: r, s => (f s x).bind fun
    | .nx s' => forC f r s'
    | .ct s' => forC f r s'
    | .bk s' => .ok (.nx s')
    | .rt z => .ok (.rt z)
def whileM {S : Type} (c : S → Res Bool) (f : S → Res S) : Nat → S → Res S
  | 0, _ => .bad
  | n + 1, s => (c s).bind fun b => if b then (f s).bind fun s' => whileM c f n s' else .ok s
def whileC {S B R : Type} (c : S → Res Bool) (f : S → Res (Ctl S S R)) : Nat → S → Res (Ctl S B R)
  | 0, _ => .bad
  | n + 1, s => (c s).bind fun b => if b then (f s).bind fun
      | .nx s' => whileC c f n s'
      | .ct s' => whileC c f n s'
      | .bk s' => .ok (.nx s')
      | .rt z => .ok (.rt z) else .ok (.nx s)
/-- a comprehension -/
def lcM {T U : Type} (t : T → Res Bool) (f : T → Res U) : List T → Res (List U)
  | [] => .ok []
  | x :: r => (t x).quiet.bind fun b => if b then (f x).quiet.bind fun y => (lcM t f r).bind fun ys => .ok (y :: ys) else lcM t f r

section
variable {S₁ S₂ B R T A U : Type} [Rp T] [Rp A] [Rp U] {X : Cx} {W : WX} {g : Bool} {ρe : Option (List Slot)} {ρ ρ' : List Slot} {st : Stmt} {rest sts : List Stmt} {n n1 : S₁ → List Slot} {n2 : S₂ → List Slot} {b : B → List Slot} {Z : Rt R} {e a tg : Expr} {pos : Pos} {lv : Nat}

/-! ### simple statements -/
theorem n_setF (i : Nat) {x : Str} {m : Res (List T)} {p2 : Pos} {n3 : List T → List Slot} (nd : X.N.Nodup) (h : FG X W ρ e m) (hn : ∀ v, n3 v = ρ.set i (.own T none v) := by intro _; rfl) (hl : i < ρ.length := by exact Nat.le_of_ble_eq_true rfl) (w : WkO ρ ρe := by trivial) (hi : X.N[i]? = some x := by rfl) (hx : Loc X.env.scope x := by first | exact Or.inl rfl | exact Or.inr rfl)
    (hs : swapsWith e (some (.Name x p2)) pos.line X.env = pure false := by rfl) (hf : X.fn x = true ∨ X.env.scope.names.lookup x = some .local := by first | exact .inl rfl | exact .inr rfl | assumption) : N1 X W ρe ρ (.Assign [.Name x p2] e pos) n3 m := by
  obtain ⟨t, p, q⟩ := h.ex
  refine ⟨_, ps_set nd hi hx p hs hf, fun S own σ H D rs h => ?_⟩
  refine q S own σ H _ rs (h.imp (fun v hv H' a vs s na e1 e2 => hv _ H' (a :: own) ⟨fun b o z _ => s b o z, fun b z => dom_same s z, fun b z => ?_⟩ ?_) fun _ z => z.toX rs w)
  · rcases List.mem_cons.mp z with z | z
    · exact .inr (z ▸ na)
    · exact .inl z
  · rw [hn]
    exact rs.setOwn s na e1 e2 i hl
theorem RS.own_at {K : PySem.W.Frag} {S own : List Addr} {σ : St} {H : Hp} {i : Nat} {ao : Option Addr} {xs : List T} (rs : RS K S ρ σ H own) (hr : ρ[i]? = some (Slot.own T ao xs)) : ∃ a vs, σ[i]? = some (some (.ref a)) ∧ a ∈ own ∧ H a = some (.lst vs) ∧ RpAll K (hide (S ++ own) H) vs xs := by
  obtain ⟨ads, r, _, h3⟩ := rs.rs
  obtain ⟨a, vs, e, e1, e2, e3, _⟩ := r.own_at hr
  exact ⟨a, vs, e, h3 a e1, e2, e3⟩
def appM {α : Type} (xs : List α) (x : α) : Res (List α) := guardR (decide (xs.length < sizeLine)) (.ok (xs ++ [x]))
theorem n_app (i : Nat) {x : Str} {ao : Option Addr} {xs : List T} {m : Res T} {p1 p2 p3 : Pos} {n3 : List T → List Slot} (h : EG X W true ρ e m) (hr : ρ[i]? = some (Slot.own T ao xs) := by rfl) (hn : ∀ v, n3 v = ρ.set i (.own T ao v) := by intro _; rfl) (w : WkO ρ ρe := by trivial) (hN : X.N[i]? = some x := by rfl)
    (hv : Vis X.env.scope x := by first | exact Or.inl rfl | exact Or.inr (Or.inl rfl) | exact Or.inr (Or.inr rfl)) (hd : (x == ("__debug__" : Str)) = false := by decide) (hcd : (x == ("__classdict__" : Str)) = false := by decide)
    (hbase : attributeBase (.Name x p1) "append" X.env (eval (.Name x p1) X.env) = eval (.Name x p1) X.env := by rfl) (hline : (p2.endLine == p3.line) = true := by rfl) (hst : starEach (e :: []) X.env = (false, eval e X.env) :: starEach [] X.env := by rfl)
    (hpl : (backTo p3 (starEach [] X.env)).any (·.1) = false := by rfl) (hs : swapsWith (.Call (.Attribute (.Name x p1) "append" p2) [e] [] p3) none pos.line X.env = pure false := by rfl)
    (hfew : ((backTo p3 (starEach (e :: []) X.env)).all (fun x => !x.1) && (backToKw p3 (keywordEach [] X.env)).all (fun x => x.1.isSome) && decide ((e :: []).length + ([] : List Keyword).length + (if ([] : List Keyword).isEmpty then 0 else 1) < 30)) = true := by rfl) :
    N1 X W ρe ρ (.Expr (.Call (.Attribute (.Name x p1) "append" p2) [e] [] p3) pos) n3 (m.bind fun v => appM xs v) := by
  obtain ⟨t, p, q⟩ := h.ex
  refine ⟨_, ps_expr (pe_bm PySem.F.plainAttrs_list PySem.F.slot_list_append PySem.F.type_list_append mt_append (pe_var hN hv hd hcd) (pa_cons p pa_nil hst) hbase hfew hline hst hpl) hs, fun S own σ H D rs hP => ?_⟩
  obtain ⟨a, vs, e1, e2, e3, e4⟩ := rs.own_at hr
  refine ⟨_, e1, .inl ⟨rfl, vs, .inl (.inl e3)⟩, ?_⟩
  refine in_stmt (R' := fun v H2 => rAppend (.ref a) [v] H2 fun _ H1 => D.nx σ H1) q rs w hP fun x v H' s r hx => ?_
  obtain ⟨h1, hx⟩ := hx.guard
  have r4 := (RpAll.mono (hide_same s) e4)
  refine ⟨a, vs, v, rfl, rfl, s _ _ e3, by rw [e4.length]; exact of_decide_eq_true h1, ?_⟩
  obtain ⟨w1, w2⟩ := (rs.mono s).write hr e1 (r4.append (.cons r .nil))
  exact hx σ _ own ((Ext.of_same s).trans w2) (by rw [hn]; exact w1)
def setM {α : Type} (xs : List α) (i : Int) (x : α) : Res (List α) := match ixN xs.length i with
  | some j => .ok (xs.set j x)
  | none => .bad
theorem n_setix (i : Nat) {x : Str} {ao : Option Addr} {xs : List T} {m : Res T} {mi : Res Int} {ie : Expr} {p1 p2 : Pos} {n3 : List T → List Slot} (h : EG X W true ρ e m) (hI : EG X W true ρ ie mi) (hr : ρ[i]? = some (Slot.own T ao xs) := by rfl) (hn : ∀ v, n3 v = ρ.set i (.own T ao v) := by intro _; rfl) (w : WkO ρ ρe := by trivial)
    (hN : X.N[i]? = some x := by rfl) (hv : Vis X.env.scope x := by first | exact Or.inl rfl | exact Or.inr (Or.inl rfl) | exact Or.inr (Or.inr rfl)) (hd : (x == ("__debug__" : Str)) = false := by decide) (hcd : (x == ("__classdict__" : Str)) = false := by decide)
    (ha : ∀ v, assign (.Subscript (.Name x p1) ie p2) X.env v = (do
      let ov ← holding [v] (eval (.Name x p1) X.env)
      let iv ← holding [v, ov] (eval ie X.env)
      standAt p2
      holding [v, ov, iv] (setItem ov iv v)
      release [v, ov, iv] []) := by intro _; rfl)
    (hs : swapsWithSole [.Subscript (.Name x p1) ie p2] e pos.line X.env = pure false := by rfl) (hw : swappedStores [.Subscript (.Name x p1) ie p2] e X.env = pure none := by rfl)
    (h1 : (assignEach [.Subscript (.Name x p1) ie p2] X.env).map (·.2) = [assign (.Subscript (.Name x p1) ie p2) X.env] := by rfl) :
    N1 X W ρe ρ (.Assign [.Subscript (.Name x p1) ie p2] e pos) n3 (m.bind fun v => mi.bind fun k => setM xs k v) := by
  obtain ⟨t, p, q⟩ := h.ex
  obtain ⟨ti, pi, qi⟩ := hI.ex
  refine ⟨_, ps_asg p (pg_sub (pe_var hN hv hd hcd) pi set_list ha) hs hw h1, fun S own σ H D rs hP => ?_⟩
  obtain ⟨a, vs, e1, e2, e3, e4⟩ := rs.own_at hr
  refine in_stmt (f := fun v => mi.bind fun k => setM xs k v) (R' := fun v H2 => gSub (tVar i) ti rSetL v σ H2 D.nx) q rs w hP fun y v H' s r hx => ?_
  refine ⟨_, e1, ?_⟩
  refine in_stmt (f := fun k => setM xs k y) (R' := fun u H2 => rSetL (.ref a) u v H2 fun H3 => D.nx σ H3) qi (rs.mono s) w (Post.imp hx (fun _ z => z) fun _ z => z.mono (Ext.of_same s)) fun k u H2 s2 r2 hk => ?_
  cases r2
  unfold setM at hk
  have s3 := s.trans s2
  cases ej : ixN xs.length k with
  | none => rw [ej] at hk; exact hk.elim
  | some j =>
    rw [ej] at hk
    refine ⟨a, vs, k, j, rfl, rfl, s3 _ _ e3, by rw [e4.length]; exact ej, ?_⟩
    obtain ⟨w1, w2⟩ := ((rs.mono s).mono s2).write hr e1 ((RpAll.mono (hide_same s3) e4).set (Rp.mono (hide_same s2) r) j)
    exact hk σ _ own ((Ext.of_same s3).trans w2) (by rw [hn]; exact w1)
theorem n_expr {m : Res T} {g : Bool} (h : EG X W g ρ e m) (w : WkO ρ ρe := by trivial) (hs : swapsWith e none pos.line X.env = pure false := by rfl) : N1 X W ρe ρ (.Expr e pos) (fun _ : T => ρ) m := by
  obtain ⟨t, p, q⟩ := h.ex
  refine ⟨_, ps_expr p hs, fun S own σ H D rs h => ?_⟩
  exact q S own σ H _ rs (h.imp (fun v hv H' u s r => hv σ H' own (Ext.of_same s) (rs.mono s)) fun _ z => z.toX rs w)
theorem n_pass : N1 X W ρe ρ (.Pass pos) (fun _ : Unit => ρ) (.ok ()) := ⟨_, ps_pass, fun S own σ H D rs h => h σ H own Ext.refl rs⟩
theorem n_doc {x j p2} : N1 X W ρe ρ (.Expr (.Constant (.str x) j p2) pos) (fun _ : Unit => ρ) (.ok ()) := ⟨_, ps_doc, fun S own σ H D rs h => h σ H own Ext.refl rs⟩
theorem n_aug (i : Nat) {x : Str} {op : Operator} {f : Int → Int → Int} {v0 : Int} {m : Res Int} {p2 : Pos} {n3 : Int → List Slot} (nd : X.N.Nodup) (ho : PIp X op (ipI f)) (h : EG X W true ρ e m) (hr : ρ[i]? = some (Slot.val Int v0) := by rfl) (hn : ∀ v, n3 v = ρ.set i (.val Int v) := by intro _; rfl) (w : WkO ρ ρe := by trivial) (hi : X.N[i]? = some x := by rfl) (hx : Loc X.env.scope x := by first | exact Or.inl rfl | exact Or.inr rfl)
    (hf : X.fn x = true ∨ X.env.scope.names.lookup x = some .local := by first | exact .inl rfl | exact .inr rfl | assumption) : N1 X W ρe ρ (.AugAssign (.Name x p2) op e pos) n3 (m.bind fun y => .ok (f v0 y)) := by
  obtain ⟨t, p, q⟩ := h.ex
  refine ⟨_, ps_aug nd hi hx p ho hf, fun S own σ H D rs h => ?_⟩
  obtain ⟨ads, r, _, _⟩ := rs.rs
  obtain ⟨u, e1, e2⟩ := r.val_at hr
  cases e2
  refine ⟨_, e1, ?_⟩
  refine in_stmt (f := fun y => .ok (f v0 y)) (R' := fun y H1 => ipI f (.int v0) y H1 fun z H2 => D.nx (σ.set i (some z)) H2) q rs w h fun y v H' s r1 hx => ?_
  cases r1
  refine ⟨v0, y, rfl, rfl, hx _ H' own (Ext.of_same s) ?_⟩
  rw [hn]
  exact (rs.mono s).set rfl i

/-! ### if -/
theorem if_run {c : Expr} {tc : TT} {mc : Res Bool} {S own : List Addr} {σ : St} {H : Hp} {P : R → Prop} {f : Bool → Res R} {k : Bool → Hp → Prop} (qc : TJp X W ρ tc mc) (rs : RS X.K S ρ σ H own) (w : WkO ρ ρe) (h : Post (mc.bind f) P (ErrS X.K W S own H ρe))
    (hk : ∀ b H', Same H H' → Post (f b) P (ErrS X.K W S own H ρe) → k b H') : tc σ H k :=
  qc S own σ H _ rs (h.bind.imp (fun b hb H1 s => hk b H1 s hb) fun _ z => z.toX rs w)
theorem n_if {c : Expr} {sa sb : List Stmt} {mc : Res Bool} {ma mb : Res S₁} (hc : TJ X W ρ c mc) (h1 : SN X W ρe ρ sa n ma) (h2 : SN X W ρe ρ sb n mb) (w : WkO ρ ρe := by trivial) : N1 X W ρe ρ (.If c sa sb pos) n (mc.bind fun k => if k then ma else mb) := by
  obtain ⟨tc, pc, qc⟩ := hc.ex
  obtain ⟨ta, pa, qa⟩ := h1.ex
  obtain ⟨tb, pb, qb⟩ := h2.ex
  refine ⟨_, ps_if pc pa pb, fun S own σ H D rs h => if_run (c := c) qc rs w h fun k H' s hk => ?_⟩
  cases k with
  | true => rw [if_pos rfl]; exact qa S own σ H' D (rs.mono s) (Post.imp (show Post ma _ _ from hk) (fun _ z => z.mono (Ext.of_same s)) fun _ z => z.mono (Ext.of_same s))
  | false => rw [if_neg Bool.false_ne_true]; exact qb S own σ H' D (rs.mono s) (Post.imp (show Post mb _ _ from hk) (fun _ z => z.mono (Ext.of_same s)) fun _ z => z.mono (Ext.of_same s))
theorem c_if {c : Expr} {sa sb : List Stmt} {mc : Res Bool} {ma mb : Res (Ctl S₁ B R)} (hc : TJ X W ρ c mc) (h1 : SC X W ρe ρ sa n b Z ma) (h2 : SC X W ρe ρ sb n b Z mb) (w : WkO ρ ρe := by trivial) : C1 X W ρe ρ (.If c sa sb pos) n b Z (mc.bind fun k => if k then ma else mb) := by
  obtain ⟨tc, pc, qc⟩ := hc.ex
  obtain ⟨ta, pa, qa⟩ := h1.ex
  obtain ⟨tb, pb, qb⟩ := h2.ex
  refine ⟨_, ps_if pc pa pb, fun S own σ H D rs h => if_run (c := c) qc rs w h fun k H' s hk => ?_⟩
  cases k with
  | true => rw [if_pos rfl]; exact qa S own σ H' D (rs.mono s) (Post.imp (show Post ma _ _ from hk) (fun _ z => CtlP.mono z (Ext.of_same s)) fun _ z => z.mono (Ext.of_same s))
  | false => rw [if_neg Bool.false_ne_true]; exact qb S own σ H' D (rs.mono s) (Post.imp (show Post mb _ _ from hk) (fun _ z => CtlP.mono z (Ext.of_same s)) fun _ z => z.mono (Ext.of_same s))
/-- if that returns on its yes, then the rest -/
theorem r_if {c : Expr} {sa : List Stmt} {mc : Res Bool} {ma mb : Res R} (hc : TJ X W ρ c mc) (h1 : SR X W ρe ρ sa Z ma) (h2 : SR X W ρe ρ rest Z mb) (w : WkO ρ ρe := by trivial) : SR X W ρe ρ (.If c sa [] pos :: rest) Z (mc.bind fun k => if k then ma else mb) := by
  obtain ⟨tc, pc, qc⟩ := hc.ex
  obtain ⟨ta, pa, qa⟩ := h1.ex
  obtain ⟨tb, pb, qb⟩ := h2.ex
  refine ⟨_, pss_cons (ps_if pc pa pss_nil) pb, fun S own σ H D rs h => if_run (c := c) qc rs w h fun k H' s hk => ?_⟩
  cases k with
  | true => rw [if_pos rfl]; exact qa S own σ H' _ (rs.mono s) (Post.imp (show Post ma _ _ from hk) (fun _ z => z.mono (Ext.of_same s)) fun _ z => z.mono (Ext.of_same s))
  | false => rw [if_neg Bool.false_ne_true]; exact qb S own σ H' D (rs.mono s) (Post.imp (show Post mb _ _ from hk) (fun _ z => z.mono (Ext.of_same s)) fun _ z => z.mono (Ext.of_same s))
/-- both return -/
theorem r_if2 {c : Expr} {sa sb : List Stmt} {mc : Res Bool} {ma mb : Res R} (hc : TJ X W ρ c mc) (h1 : SR X W ρe ρ sa Z ma) (h2 : SR X W ρe ρ sb Z mb) (w : WkO ρ ρe := by trivial) : SR X W ρe ρ (.If c sa sb pos :: rest) Z (mc.bind fun k => if k then ma else mb) := by
  obtain ⟨tc, pc, qc⟩ := hc.ex
  obtain ⟨ta, pa, qa⟩ := h1.ex
  obtain ⟨tb, pb, qb⟩ := h2.ex
  refine ⟨_, pss_cons (ps_if pc pa pb) pss_never, fun S own σ H D rs h => if_run (c := c) qc rs w h fun k H' s hk => ?_⟩
  cases k with
  | true => rw [if_pos rfl]; exact qa S own σ H' _ (rs.mono s) (Post.imp (show Post ma _ _ from hk) (fun _ z => z.mono (Ext.of_same s)) fun _ z => z.mono (Ext.of_same s))
  | false => rw [if_neg Bool.false_ne_true]; exact qb S own σ H' _ (rs.mono s) (Post.imp (show Post mb _ _ from hk) (fun _ z => z.mono (Ext.of_same s)) fun _ z => z.mono (Ext.of_same s))
/-! ### targets -/
theorem g_name (i : Nat) {x : Str} (nd : X.N.Nodup) (hi : X.N[i]? = some x := by rfl) (hx : Loc X.env.scope x := by first | exact Or.inl rfl | exact Or.inr rfl) (hf : X.fn x = true ∨ X.env.scope.names.lookup x = some .local := by first | exact .inl rfl | exact .inr rfl | assumption) : GJ X (.Name x pos) (fun ρ (v : T) => ρ.set i (.val T v)) [i] :=
  ⟨_, pg_name nd hi hx hf, fun S own ρ σ H v x Q rs r h => h _ (rs.set r i) fun vs hv => wipe_set (hv i List.mem_cons_self)⟩
theorem g_pair {e1 e2 : Expr} {k} {u1 : List Slot → T → List Slot} {u2 : List Slot → A → List Slot} {j1 j2 : List Nat} (hc : X.calm = true) (h1 : GJ X e1 u1 j1) (h2 : GJ X e2 u2 j2)
    (hn : (assignEach [e1, e2] X.env).length = 2 := by rfl) (hst : (assignEach [e1, e2] X.env).findIdx? (·.1) = none := by rfl) (hs1 : (assignEach (e1 :: [e2]) X.env).map (·.2) = assign e1 X.env :: (assignEach [e2] X.env).map (·.2) := by rfl) (hs2 : (assignEach (e2 :: []) X.env).map (·.2) = assign e2 X.env :: (assignEach [] X.env).map (·.2) := by rfl) :
    GJ X (.Tuple [e1, e2] k pos) (fun ρ (p : T × A) => u2 (u1 ρ p.1) p.2) (j1 ++ j2) := by
  obtain ⟨g1, p1, q1⟩ := h1.ex
  obtain ⟨g2, p2, q2⟩ := h2.ex
  refine ⟨_, pg_tup hc (pgs_cons p1 (pgs_cons p2 pgs_nil hs2) hs1) hn hst, fun S own ρ σ H v x Q rs r h => ?_⟩
  obtain ⟨p, vs, rfl, e1, r2⟩ := r
  obtain ⟨x1, x2⟩ := x
  cases r2 with
  | cons ra r2 =>
    cases r2 with
    | cons rb r3 =>
      cases r3
      exact ⟨p, _, rfl, SqT.same hide_sub e1, rfl, _, _, rfl, q1 S own ρ σ H _ x1 _ rs ra fun σ1 rs1 t1 => ⟨_, _, rfl, q2 S own _ σ1 H _ x2 _ rs1 rb fun σ2 rs2 t2 => ⟨rfl, h σ2 rs2 fun vs hv => (t2 vs fun i hi => hv i (List.mem_append_right _ hi)).trans (t1 vs fun i hi => hv i (List.mem_append_left _ hi))⟩⟩⟩
theorem g_three {B : Type} [Rp B] {e1 e2 e3 : Expr} {k} {u1 : List Slot → T → List Slot} {u2 : List Slot → A → List Slot} {u3 : List Slot → B → List Slot} {j1 j2 j3 : List Nat} (hc : X.calm = true) (h1 : GJ X e1 u1 j1) (h2 : GJ X e2 u2 j2) (h3 : GJ X e3 u3 j3)
    (hn : (assignEach [e1, e2, e3] X.env).length = 3 := by rfl) (hst : (assignEach [e1, e2, e3] X.env).findIdx? (·.1) = none := by rfl) (hs1 : (assignEach (e1 :: [e2, e3]) X.env).map (·.2) = assign e1 X.env :: (assignEach [e2, e3] X.env).map (·.2) := by rfl)
    (hs2 : (assignEach (e2 :: [e3]) X.env).map (·.2) = assign e2 X.env :: (assignEach [e3] X.env).map (·.2) := by rfl) (hs3 : (assignEach (e3 :: []) X.env).map (·.2) = assign e3 X.env :: (assignEach [] X.env).map (·.2) := by rfl) :
    GJ X (.Tuple [e1, e2, e3] k pos) (fun ρ (p : T3 T A B) => u3 (u2 (u1 ρ p.a) p.b) p.c) (j1 ++ (j2 ++ j3)) := by
  obtain ⟨g1, p1, q1⟩ := h1.ex
  obtain ⟨g2, p2, q2⟩ := h2.ex
  obtain ⟨g3, p3, q3⟩ := h3.ex
  refine ⟨_, pg_tup hc (pgs_cons p1 (pgs_cons p2 (pgs_cons p3 pgs_nil hs3) hs2) hs1) hn hst, fun S own ρ σ H v x Q rs r h => ?_⟩
  obtain ⟨p, vs, rfl, e1, r2⟩ := r
  obtain ⟨x1, x2, x3⟩ := x
  cases r2 with
  | cons ra r2 =>
    cases r2 with
    | cons rb r3 =>
      cases r3 with
      | cons rc r4 =>
        cases r4
        exact ⟨p, _, rfl, SqT.same hide_sub e1, rfl, _, _, rfl, q1 S own ρ σ H _ x1 _ rs ra fun σ1 rs1 t1 => ⟨_, _, rfl, q2 S own _ σ1 H _ x2 _ rs1 rb fun σ2 rs2 t2 => ⟨_, _, rfl, q3 S own _ σ2 H _ x3 _ rs2 rc fun σ3 rs3 t3 => ⟨rfl, h σ3 rs3 fun vs hv => ((t3 vs fun i hi => hv i (List.mem_append_right _ (List.mem_append_right _ hi))).trans (t2 vs fun i hi => hv i (List.mem_append_right _ (List.mem_append_left _ hi)))).trans (t1 vs fun i hi => hv i (List.mem_append_left _ hi))⟩⟩⟩⟩
/-- a, b = e -/
theorem n_unp {m : Res T} {u : List Slot → T → List Slot} {js : List Nat} {n3 : T → List Slot} (h : EG X W true ρ e m) (hg : GJ X tg u js) (hn : ∀ v, n3 v = u ρ v := by intro _; rfl) (w : WkO ρ ρe := by trivial)
    (hs : swapsWithSole [tg] e pos.line X.env = pure false := by rfl) (hw : swappedStores [tg] e X.env = pure none := by rfl) (h1 : (assignEach [tg] X.env).map (·.2) = [assign tg X.env] := by rfl) : N1 X W ρe ρ (.Assign [tg] e pos) n3 m := by
  obtain ⟨t, p, q⟩ := h.ex
  obtain ⟨gt, pg, qg⟩ := hg.ex
  refine ⟨_, ps_asg p pg hs hw h1, fun S own σ H D rs h => ?_⟩
  refine q S own σ H _ rs (h.imp (fun v hv H' w' s r => qg S own ρ σ H' w' v _ (rs.mono s) r fun σ' rs' _ => hv σ' H' own (Ext.of_same s) ?_) fun _ z => z.toX rs w)
  rw [hn]
  exact rs'
/-- a, b = x, y (locals) -/
theorem n_par (i j : Nat) {x y : Str} {a b : Expr} {px py pt : Pos} {kt k2 pt2} {m1 : Res T} {m2 : Res A} {n3 : T × A → List Slot} (hc : X.calm = true) (nd : X.N.Nodup) (ha : EG X W true ρ a m1) (hb : EG X W true ρ b m2) (hn : ∀ v, n3 v = (ρ.set i (.val T v.1)).set j (.val A v.2) := by intro _; rfl) (w : WkO ρ ρe := by trivial)
    (hi : X.N[i]? = some x := by rfl) (hj : X.N[j]? = some y := by rfl) (hij : i ≠ j := by decide) (hx : X.env.scope.names.lookup x = some .local := by rfl) (hy : X.env.scope.names.lookup y = some .local := by rfl)
    (hw : swappedStores [.Tuple [.Name x px, .Name y py] kt pt] (.Tuple [a, b] k2 pt2) X.env = pure (some [x, y]) := by rfl) (hs : swapsWithSole [.Tuple [.Name x px, .Name y py] kt pt] (.Tuple [a, b] k2 pt2) pos.line X.env = pure false := by rfl)
    (he : starEach [a, b] X.env = (false, eval a X.env) :: starEach [b] X.env := by rfl) (he2 : starEach [b] X.env = (false, eval b X.env) :: starEach [] X.env := by rfl) :
    N1 X W ρe ρ (.Assign [.Tuple [.Name x px, .Name y py] kt pt] (.Tuple [a, b] k2 pt2) pos) n3 (m1.bind fun u => m2.bind fun v => .ok (u, v)) := by
  obtain ⟨t1, p1, q1⟩ := ha.ex
  obtain ⟨t2, p2, q2⟩ := hb.ex
  refine ⟨_, ps_par hc nd hi hj hij hx hy (pa_cons p1 (pa_cons p2 pa_nil he2) he) hw hs, fun S own σ H D rs h => ?_⟩
  refine in_stmt (f := fun u => m2.bind fun v => .ok (u, v)) (R' := fun v H1 => t2 σ H1 fun u H2 => ∃ v' w', [v, u] = [v', w'] ∧ D.nx ((σ.set i (some v')).set j (some w')) H2) q1 rs w h fun u v H' s r hx => ?_
  refine in_stmt (f := fun v => .ok (u, v)) (R' := fun w1 H2 => ∃ v' w', [v, w1] = [v', w'] ∧ D.nx ((σ.set i (some v')).set j (some w')) H2) q2 (rs.mono s) w (Post.imp hx (fun _ z => z) fun _ z => z.mono (Ext.of_same s)) fun v2 w2 H2 s2 r2 hk => ?_
  refine ⟨v, w2, rfl, hk _ H2 own (Ext.of_same (s.trans s2)) ?_⟩
  rw [hn]
  exact (((rs.mono s).mono s2).set (Rp.mono (hide_same s2) r) i).set r2 j

/-! ### what is walked -/
theorem i_list {m : Res (List T)} (h : EG X W true ρ e m) : IJ X W ρ tg e m := by
  obtain ⟨t, p, q⟩ := h.ex
  refine ⟨_, pi_list p, fun S own σ H R rs hp => q S own σ H _ rs (hp.imp (fun xs hx H' v s r => ?_) fun _ z => z)⟩
  obtain ⟨a, vs, rfl, e1, e2⟩ := r
  have there : ∀ H2, Same (hide (S ++ own) H') H2 → SqL X.K H2 a vs := fun H2 s2 => .inl (.inl (s2 _ _ e1))
  refine ⟨a, rfl, ⟨vs, .inl (.inl (hide_sub _ _ e1))⟩, hx _ H' s ⟨fun i H2 hi s2 => ?_, fun H2 s2 => ⟨vs, there H2 s2, by rw [e2.length]; exact Nat.le_refl _⟩, fun i H2 v H3 x B2 ei s2 hd hy => ?_⟩⟩
  · have h2 : i < vs.length := by rw [e2.length]; exact hi
    exact ⟨vs, vs[i], there H2 s2, List.getElem?_eq_getElem h2⟩
  · obtain ⟨rfl, f⟩ := hy
    obtain ⟨v', e3, r3⟩ := e2.get ei
    have e4 := f vs (there _ (s2.trans hide_sub))
    rw [e3] at e4
    cases e4
    exact ⟨Same.refl _, Rp.mono s2 r3⟩
theorem i_tup {m : Res (Tup T)} (h : EG X W true ρ e m) : IJ X W ρ tg e (m.bind fun x => .ok x.l) := by
  obtain ⟨t, p, q⟩ := h.ex
  refine ⟨_, pi_tup p, fun S own σ H R rs hp => q S own σ H _ rs (hp.bind.imp (fun xs hx H' v s r => ?_) fun _ z => z)⟩
  obtain ⟨a, vs, rfl, e1, e2⟩ := r
  refine ⟨a, rfl, ⟨vs, SqT.same hide_sub e1⟩, hx _ H' s ⟨fun i H2 hi s2 => ?_, fun H2 s2 => ⟨vs, SqT.same s2 e1, by rw [e2.length]; exact Nat.le_refl _⟩, fun i H2 v H3 x B2 ei s2 hd hy => ?_⟩⟩
  · have h2 : i < vs.length := by rw [e2.length]; exact hi
    exact ⟨vs, vs[i], SqT.same s2 e1, List.getElem?_eq_getElem h2⟩
  · obtain ⟨rfl, f⟩ := hy
    obtain ⟨v', e3, r3⟩ := e2.get ei
    have e4 := f vs (SqT.same (s2.trans hide_sub) e1)
    rw [e3] at e4
    cases e4
    exact ⟨Same.refl _, Rp.mono s2 r3⟩
def inRange (j : Int) : Bool := decide (-(2 ^ 62) ≤ j) && decide (j < 2 ^ 62)
theorem inRange_ok {j : Int} (h : inRange j = true) : -(2 ^ 62) ≤ j ∧ j < 2 ^ 62 := by
  unfold inRange at h
  simp only [Bool.and_eq_true, decide_eq_true_eq] at h
  exact h
/-- range(lo, hi) -/
def rng (lo hi : Int) : List Int := (List.range (hi - lo).toNat).map fun i : Nat => lo + (i : Int)
theorem rng_length (lo hi : Int) : (rng lo hi).length = (hi - lo).toNat := by unfold rng; rw [List.length_map, List.length_range]
theorem rng_get {lo hi x : Int} {i : Nat} (h : (rng lo hi)[i]? = some x) : x = lo + (i : Int) := by
  unfold rng at h
  rw [List.getElem?_map] at h
  cases e : (List.range (hi - lo).toNat)[i]? with
  | none => rw [e] at h; cases h
  | some k =>
    rw [e] at h
    have : k = i := by
      rw [List.getElem?_eq_some_iff] at e
      obtain ⟨h1, h2⟩ := e
      rw [List.getElem_range] at h2
      exact h2.symm
    subst this
    cases h
    rfl
theorem wj_range {K : PySem.W.Frag} {B : List Addr} {H0 : Hp} {lo hi : Int} : WJ K B H0 (Itr lo (hi - lo).toNat) (rng lo hi) := by
  refine ⟨fun i H hi s => ?_, fun H s => ?_, fun i H v H' x B2 ei s hd hy => ?_⟩
  · show i < _
    rw [rng_length] at hi
    exact hi
  · show _ ≤ (rng lo hi).length
    rw [rng_length]
    exact Nat.le_refl _
  · obtain ⟨rfl, rfl⟩ := hy
    exact ⟨Same.refl _, by rw [rng_get ei]; rfl⟩
theorem i_range1 {m : Res Int} {p : Pos} (h : EG X W true ρ a m) (hm : X.mg "range" = none) (hg : Gl X "range" := by rfl) (hs : starEach [a] X.env = [(false, eval a X.env)] := by rfl) (he : starEach (a :: []) X.env = (false, eval a X.env) :: starEach [] X.env := by rfl) :
    IJ X W ρ tg (.Call (.Name "range" p) [a] [] pos) (m.bind fun j => guardR (inRange j) (.ok (rng 0 j))) := by
  obtain ⟨t, p, q⟩ := h.ex
  refine ⟨_, pi_range1 hg hm (pa_cons p pa_nil he) hs, fun S own σ H R rs hp => q S own σ H _ rs (hp.bind.imp (fun j hj H' v s r => ?_) fun _ z => z)⟩
  cases r
  obtain ⟨h1, hj⟩ := hj.guard
  have h2 := inRange_ok h1
  have w := wj_range (K := X.K) (B := S ++ own) (H0 := H') (lo := 0) (hi := j)
  rw [Int.sub_zero] at w
  exact ⟨j, rfl, h2.1, h2.2, hj _ H' s w⟩
theorem i_range2 {c : Expr} {m : Res Int} {mc : Res Int} {p : Pos} (h : EG X W true ρ a m) (h2 : EG X W true ρ c mc) (hm : X.mg "range" = none) (hg : Gl X "range" := by rfl) (hs : starEach [a, c] X.env = [(false, eval a X.env), (false, eval c X.env)] := by rfl) (hs2 : starEach [c] X.env = [(false, eval c X.env)] := by rfl)
    (he : starEach (a :: [c]) X.env = (false, eval a X.env) :: starEach [c] X.env := by rfl) (he2 : starEach (c :: []) X.env = (false, eval c X.env) :: starEach [] X.env := by rfl) :
    IJ X W ρ tg (.Call (.Name "range" p) [a, c] [] pos) (m.bind fun i => mc.bind fun j => guardR (inRange i && inRange j) (.ok (rng i j))) := by
  obtain ⟨t, p, q⟩ := h.ex
  obtain ⟨tc, pc, qc⟩ := h2.ex
  refine ⟨_, pi_range2 hg hm (pa_cons p (pa_cons pc pa_nil he2) he) hs hs2, fun S own σ H R rs hp => q S own σ H _ rs (hp.bind.imp (fun i hi H1 v s r => qc S own σ H1 _ (rs.mono s) (hi.bind.imp (fun j hj H' u s2 r2 => ?_) fun _ z => z.mono s)) fun _ z => z)⟩
  cases r
  cases r2
  obtain ⟨h1, hj⟩ := hj.guard
  rw [Bool.and_eq_true] at h1
  have h3 := inRange_ok h1.1
  have h4 := inRange_ok h1.2
  exact ⟨i, j, rfl, ⟨h3.1, h3.2, h4.1, h4.2⟩, hj _ H' (s.trans s2) wj_range⟩
def enumL {α : Type} (xs : List α) : List (Int × α) := (List.range xs.length).zipWith (fun (i : Nat) x => ((i : Int), x)) xs
theorem enumL_length {α : Type} (xs : List α) : (enumL xs).length = xs.length := by unfold enumL; simp
theorem enumL_get {α : Type} {xs : List α} {i : Nat} {p : Int × α} (h : (enumL xs)[i]? = some p) : p.1 = (i : Int) ∧ xs[i]? = some p.2 := by
  unfold enumL at h
  rw [List.getElem?_zipWith] at h
  cases e : xs[i]? with
  | none => rw [e] at h; cases hh : (List.range xs.length)[i]? <;> rw [hh] at h <;> cases h
  | some x =>
    have hi : i < xs.length := (List.getElem?_eq_some_iff.mp e).1
    have e2 : (List.range xs.length)[i]? = some i := by simp [hi]
    rw [e, e2] at h
    cases h
    exact ⟨rfl, rfl⟩
theorem pair_new {K : PySem.W.Frag} {B2 : List Addr} {H : Hp} {Tt : Addr} {x y : V} {q : T × A} (hT : H Tt = none) (hd : ∀ b ∈ B2, H b ≠ none) (h1 : rp K (hide B2 H) x q.1) (h2 : rp K (hide B2 H) y q.2) :
    Same H (upd H Tt (.tup [x, y])) ∧ rp K (hide B2 (upd H Tt (.tup [x, y]))) (.ref Tt) q := by
  have s := same_upd (o := HO.tup [x, y]) hT
  refine ⟨s, Tt, [x, y], rfl, .inl (.inl ?_), .cons (Rp.mono (hide_same s) h1) (.cons (Rp.mono (hide_same s) h2) .nil)⟩
  rw [hide_out fun z => hd Tt z hT, upd_same]
theorem i_enum {m : Res (List T)} {p : Pos} {elts : List Expr} {kk : Nat} {tpos : Pos} (h : EG X W true ρ a m) (hm : X.mg "enumerate" = none) (hg : Gl X "enumerate" := by rfl) (hs : starEach [a] X.env = [(false, eval a X.env)] := by rfl) (he : starEach (a :: []) X.env = (false, eval a X.env) :: starEach [] X.env := by rfl) :
    IJ X W ρ (.Tuple elts kk tpos) (.Call (.Name "enumerate" p) [a] [] pos) (m.bind fun xs => .ok (enumL xs)) := by
  obtain ⟨t, p, q⟩ := h.ex
  refine ⟨_, pi_enum hg hm (pa_cons p pa_nil he) hs, fun S own σ H R rs hp => q S own σ H _ rs (hp.bind.imp (fun xs hx H' v s r => ?_) fun _ z => z)⟩
  obtain ⟨a, vs, rfl, e1, e2⟩ := r
  have there : ∀ H2, Same (hide (S ++ own) H') H2 → SqL X.K H2 a vs := fun H2 s2 => .inl (.inl (s2 _ _ e1))
  have wl := walk_enum (K := X.K) (a := a) (xs := vs)
  refine ⟨a, vs, rfl, .inl (.inl (hide_sub _ _ e1)), hx _ H' s ⟨fun i H2 hi s2 => wl.goes i H2 (by rw [e2.length, ← enumL_length]; exact hi) (there H2 s2), fun H2 s2 => ?_, fun i H2 v H3 x B2 ei s2 hd hy => ?_⟩⟩
  · have z : (enumL xs).length = vs.length := by rw [enumL_length, e2.length]
    rw [z]
    exact wl.stops H2 (there H2 s2)
  · obtain ⟨g1, g2⟩ := enumL_get ei
    have hi : i < vs.length := by rw [e2.length]; exact (List.getElem?_eq_some_iff.mp g2).1
    obtain ⟨Tt, x1, y1, rfl, hT, rfl, f1, f2⟩ := wl.yields i H2 v H3 hi (there _ (s2.trans hide_sub)) hy
    obtain ⟨v', e3, r3⟩ := e2.get g2
    have f2 : vs[i]? = some y1 := f2
    rw [e3] at f2
    cases f1
    cases f2
    exact pair_new hT hd (by show _ = V.int _; rw [g1]) (Rp.mono s2 r3)
theorem i_zip {c : Expr} {m : Res (List T)} {mc : Res (List A)} {p : Pos} {elts : List Expr} {kk : Nat} {tpos : Pos} (h : EG X W true ρ a m) (h2 : EG X W true ρ c mc) (hm : X.mg "zip" = none) (hg : Gl X "zip" := by rfl)
    (he : starEach (a :: [c]) X.env = (false, eval a X.env) :: starEach [c] X.env := by rfl) (he2 : starEach (c :: []) X.env = (false, eval c X.env) :: starEach [] X.env := by rfl) (hpl : (backTo pos (starEach [c] X.env)).any (·.1) = false := by rfl) :
    IJ X W ρ (.Tuple elts kk tpos) (.Call (.Name "zip" p) [a, c] [] pos) (m.bind fun xs => mc.bind fun ys => .ok (xs.zip ys)) := by
  obtain ⟨t, p, q⟩ := h.ex
  obtain ⟨tc, pc, qc⟩ := h2.ex
  refine ⟨_, pi_zip hg hm (pa_cons p (pa_cons pc pa_nil he2) he) he hpl, fun S own σ H R rs hp => q S own σ H _ rs (hp.bind.imp (fun xs hx H1 v s1 r => qc S own σ H1 _ (rs.mono s1) (hx.bind.imp (fun ys hy H' u s2 r2 => ?_) fun _ z => z.mono s1)) fun _ z => z)⟩
  obtain ⟨a, vs, rfl, e1, e2⟩ := r
  obtain ⟨b, us, rfl, e3, e4⟩ := r2
  have e1 := hide_same s2 _ _ e1
  have e2 := RpAll.mono (hide_same s2) e2
  have s := s1.trans s2
  have there : ∀ H2, Same (hide (S ++ own) H') H2 → SqL X.K H2 a vs ∧ SqL X.K H2 b us := fun H2 s2 => ⟨.inl (.inl (s2 _ _ e1)), .inl (.inl (s2 _ _ e3))⟩
  have wl := walk_zip (K := X.K) (a := a) (b := b) (xs := vs) (ys := us) rfl
  have hlen : (xs.zip ys).length = min vs.length us.length := by rw [List.length_zip, e2.length, e4.length]
  refine ⟨a, b, vs, us, rfl, .inl (.inl (hide_sub _ _ e1)), .inl (.inl (hide_sub _ _ e3)), hy _ H' s ⟨fun i H2 hi s2 => wl.goes i H2 (by rw [← hlen]; exact hi) (there H2 s2), fun H2 s2 => ?_, fun i H2 v H3 x B2 ei s2 hd hyy => ?_⟩⟩
  · rw [hlen]
    exact wl.stops H2 (there H2 s2)
  · have hi : i < min vs.length us.length := by rw [← hlen]; exact (List.getElem?_eq_some_iff.mp ei).1
    obtain ⟨Tt, x1, y1, rfl, hT, rfl, f1, f2⟩ := wl.yields i H2 v H3 hi (there _ (s2.trans hide_sub)) hyy
    rw [List.getElem?_zip_eq_some] at ei
    obtain ⟨v', e5, r5⟩ := e2.get ei.1
    obtain ⟨u', e6, r6⟩ := e4.get ei.2
    have f1 : vs[i]? = some x1 := f1
    have f2 : us[i]? = some y1 := f2
    rw [e5] at f1
    rw [e6] at f2
    cases f1
    cases f2
    exact pair_new hT hd (Rp.mono s2 r5) (Rp.mono s2 r6)
def signs (z : Str) : List Str := z.cps.toList.map fun c => ⟨#[c]⟩
theorem i_str {m : Res Str} (h : EG X W true ρ e m) : IJ X W ρ tg e (m.bind fun z => .ok (signs z)) := by
  obtain ⟨t, p, q⟩ := h.ex
  refine ⟨_, pi_str p, fun S own σ H R rs hp => q S own σ H _ rs (hp.bind.imp (fun z hx H' v s r => ?_) fun _ z => z)⟩
  cases r
  have hl : (signs z).length = z.cps.size := by unfold signs; rw [List.length_map, Array.length_toList]
  refine ⟨z, rfl, hx _ H' s ⟨fun i H2 hi _ => ?_, fun H2 _ => ?_, fun i H2 v H3 x B2 ei _ _ hy => ?_⟩⟩
  · show i < z.cps.size
    rw [← hl]; exact hi
  · show z.cps.size ≤ _
    rw [hl]; exact Nat.le_refl _
  · obtain ⟨rfl, c, e1, rfl⟩ := hy
    refine ⟨Same.refl _, ?_⟩
    unfold signs at ei
    rw [List.getElem?_map, Array.getElem?_toList, e1] at ei
    cases ei
    rfl
theorem IJ.of_eq {m m' : Res (List T)} (h : IJ X W ρ tg e m) (z : m = m') : IJ X W ρ tg e m' := z ▸ h

/-! ### for -/
theorem n_for {body : List Stmt} {m : Res (List T)} {u : List Slot → T → List Slot} {ρl : S₁ → List Slot} {f : S₁ → T → Res S₁} {s0 : S₁} {js : List Nat} (C : CtxOk X W lv) (hi : IJ X W ρ tg e m) (hg : GJ X tg u js) (h0 : Wk ρ (ρl s0)) (hb : ∀ s x, SN X W ρe (u (ρl s) x) body ρl (f s x)) (w : WkO ρ ρe := by trivial)
    (hs : ∀ x, foldedSetIterable e X.env x = pure x := by intro _; rfl) : N1 X W ρe ρ (.For tg e body [] pos) ρl (m.bind fun xs => forR f xs s0) := by
  obtain ⟨wi, pi, qi⟩ := hi.ex
  obtain ⟨gt, pg, qg⟩ := hg.ex
  have hx : ∃ tb : TS, PSs X body tb ∧ ∀ s x, SNp X W ρe (u (ρl s) x) tb ρl (f s x) := by
    refine ⟨fun D σ H => ∃ s x, (∃ tb, PSs X body tb ∧ SNp X W ρe (u (ρl s) x) tb ρl (f s x)) ∧ ∃ S own, RS X.K S (u (ρl s) x) σ H own ∧ Post (f s x) (NxP X.K S own H D.nx ρl) (ErrS X.K W S own H ρe), ⟨fun pins s σ H D I h => ?_⟩, fun s x S own σ H D rs h => ⟨s, x, (hb s x).ex, S, own, rs, h⟩⟩
    obtain ⟨s, x, ⟨tb, p, q⟩, S, own, rs, h⟩ := h
    exact p.run pins _ σ H D I (q S own σ H D rs h)
  obtain ⟨tb, pb, qb⟩ := hx
  refine ⟨_, ps_for C.po C.calm pi pg pb hs, fun S own σ H D rs h => qi S own σ H _ rs (h.bind.imp (fun xs hx J H1 s1 wj => ?_) fun _ z => z.toX rs w)⟩
  refine ⟨fun i k σ' H' => i + k = xs.length ∧ ∃ s own', Ext own H1 own' H' ∧ RS X.K S (ρl s) σ' H' own' ∧ Post (forR f (xs.drop i) s) (NxP X.K S own H D.nx ρl) (ErrS X.K W S own H ρe), ⟨xs.length, Nat.zero_add _, s0, own, Ext.refl, (rs.mono s1).wk h0, hx⟩, fun i k σ' H' hW => ?_⟩
  obtain ⟨ek, s, own', x1, rs', hp⟩ := hW
  have sight : Same (hide (S ++ own) H1) (hide (S ++ own') H') := x1.sight fun _ _ _ => trivial
  by_cases hi : i < xs.length
  · refine .inr ⟨wj.goes i H' hi (sight.trans hide_sub), fun σ2 H2 => ∃ s' own2, Ext own H1 own2 H2 ∧ RS X.K S (ρl s') σ2 H2 own2 ∧ Post (forR f (xs.drop (i + 1)) s') (NxP X.K S own H D.nx ρl) (ErrS X.K W S own H ρe), fun σ2 H2 hN => ?_, fun v H2 hy => ?_⟩
    · obtain ⟨s', own2, q1, q2, q3⟩ := hN
      exact ⟨k - 1, by omega, by omega, s', own2, q1, q2, q3⟩
    · obtain ⟨s2, r2⟩ := wj.yields i H' v H2 xs[i] (S ++ own') (List.getElem?_eq_getElem hi) sight rs'.dom hy
      refine qg S own' (ρl s) σ' H2 v xs[i] _ (rs'.mono s2) r2 fun σ3 rs3 _ => ?_
      refine qb s xs[i] S own' σ3 H2 _ rs3 ?_
      rw [List.drop_eq_getElem_cons hi] at hp
      have x2 : Ext own H own' H2 := (Ext.of_same s1).trans (x1.trans (Ext.of_same s2))
      refine (show Post ((f s xs[i]).bind fun s' => forR f (xs.drop (i + 1)) s') _ _ from hp).bind.imp (fun s' hs' σ4 H4 own4 x4 rs4 => ⟨s', own4, x1.trans ((Ext.of_same s2).trans x4), rs4, hs'⟩) fun ex z => z.mono x2
  · refine .inl ⟨?_, ?_⟩
    · have e1 : i = xs.length := by omega
      rw [e1]
      exact wj.stops H' (sight.trans hide_sub)
    · rw [List.drop_eq_nil_of_le (by omega)] at hp
      exact hp σ' H' own' ((Ext.of_same s1).trans x1) rs'
theorem c_for {body : List Stmt} {m : Res (List T)} {u : List Slot → T → List Slot} {ρl : S₁ → List Slot} {f : S₁ → T → Res (Ctl S₁ S₁ R)} {s0 : S₁} {js : List Nat} (C : CtxOk X W lv) (hi : IJ X W ρ tg e m) (hg : GJ X tg u js) (h0 : Wk ρ (ρl s0)) (hb : ∀ s x, SC X W ρe (u (ρl s) x) body ρl ρl Z (f s x)) (w : WkO ρ ρe := by trivial)
    (hs : ∀ x, foldedSetIterable e X.env x = pure x := by intro _; rfl) : C1 X W ρe ρ (.For tg e body [] pos) ρl b Z (m.bind fun xs => forC f xs s0) := by
  obtain ⟨wi, pi, qi⟩ := hi.ex
  obtain ⟨gt, pg, qg⟩ := hg.ex
  have hx : ∃ tb : TS, PSs X body tb ∧ ∀ s x, SCp X W ρe (u (ρl s) x) tb ρl ρl Z (f s x) := by
    refine ⟨fun D σ H => ∃ s x, (∃ tb, PSs X body tb ∧ SCp X W ρe (u (ρl s) x) tb ρl ρl Z (f s x)) ∧ ∃ S own, RS X.K S (u (ρl s) x) σ H own ∧ Post (f s x) (CtlP X.K S own H D ρl ρl Z) (ErrS X.K W S own H ρe), ⟨fun pins s σ H D I h => ?_⟩, fun s x S own σ H D rs h => ⟨s, x, (hb s x).ex, S, own, rs, h⟩⟩
    obtain ⟨s, x, ⟨tb, p, q⟩, S, own, rs, h⟩ := h
    exact p.run pins _ σ H D I (q S own σ H D rs h)
  obtain ⟨tb, pb, qb⟩ := hx
  refine ⟨_, ps_for C.po C.calm pi pg pb hs, fun S own σ H D rs h => qi S own σ H _ rs (h.bind.imp (fun xs hx J H1 s1 wj => ?_) fun _ z => z.toX rs w)⟩
  refine ⟨fun i k σ' H' => i + k = xs.length ∧ ∃ s own', Ext own H1 own' H' ∧ RS X.K S (ρl s) σ' H' own' ∧ Post (forC f (xs.drop i) s) (CtlP X.K S own H D ρl b Z) (ErrS X.K W S own H ρe), ⟨xs.length, Nat.zero_add _, s0, own, Ext.refl, (rs.mono s1).wk h0, hx⟩, fun i k σ' H' hW => ?_⟩
  obtain ⟨ek, s, own', x1, rs', hp⟩ := hW
  have sight : Same (hide (S ++ own) H1) (hide (S ++ own') H') := x1.sight fun _ _ _ => trivial
  by_cases hi : i < xs.length
  · refine .inr ⟨wj.goes i H' hi (sight.trans hide_sub), fun σ2 H2 => ∃ s' own2, Ext own H1 own2 H2 ∧ RS X.K S (ρl s') σ2 H2 own2 ∧ Post (forC f (xs.drop (i + 1)) s') (CtlP X.K S own H D ρl b Z) (ErrS X.K W S own H ρe), fun σ2 H2 hN => ?_, fun v H2 hy => ?_⟩
    · obtain ⟨s', own2, q1, q2, q3⟩ := hN
      exact ⟨k - 1, by omega, by omega, s', own2, q1, q2, q3⟩
    · obtain ⟨s2, r2⟩ := wj.yields i H' v H2 xs[i] (S ++ own') (List.getElem?_eq_getElem hi) sight rs'.dom hy
      refine qg S own' (ρl s) σ' H2 v xs[i] _ (rs'.mono s2) r2 fun σ3 rs3 _ => ?_
      refine qb s xs[i] S own' σ3 H2 _ rs3 ?_
      rw [List.drop_eq_getElem_cons hi] at hp
      have x2 : Ext own H own' H2 := (Ext.of_same s1).trans (x1.trans (Ext.of_same s2))
      refine (show Post ((f s xs[i]).bind _) _ _ from hp).bind.imp (fun z hz => ?_) fun ex z => z.mono x2
      cases z with
      | nx s' => exact fun σ4 H4 own4 x4 rs4 => ⟨s', own4, x1.trans ((Ext.of_same s2).trans x4), rs4, hz⟩
      | ct s' => exact fun σ4 H4 own4 x4 rs4 => ⟨s', own4, x1.trans ((Ext.of_same s2).trans x4), rs4, hz⟩
      | bk s' => exact NxP.mono (show NxP X.K S own H D.nx ρl s' from hz) x2
      | rt r => exact RtP.mono (show RtP X.K S own H D.rt Z r from hz) x2
  · refine .inl ⟨?_, ?_⟩
    · have e1 : i = xs.length := by omega
      rw [e1]
      exact wj.stops H' (sight.trans hide_sub)
    · rw [List.drop_eq_nil_of_le (by omega)] at hp
      exact hp σ' H' own' ((Ext.of_same s1).trans x1) rs'
end
end Py

set_option Elab.async false
set_option linter.all false
set_option maxRecDepth 100000
set_option maxHeartbeats 1000000
/-! Py, part F: while, comprehensions, calls of defs, defs, isinstance, is. -/
namespace Py
open PySem PySem.Spec L2
open Rp (rp)

mutual
theorem dp_same {K : PySem.W.Frag} {H H' : Hp} (s : Same H H') : ∀ {v : V} {d : PyData}, Dp K H v d → Dp K H' v d
  | _, _, .non => .non
  | _, _, .bl b => .bl b
  | _, _, .int i => .int i
  | _, _, .str x => .str x
  | _, _, .lst h r => .lst (s.seq h) (dpAll_same s r)
  | _, _, .tup h r => .tup (SqT.same s h) (dpAll_same s r)
theorem dpAll_same {K : PySem.W.Frag} {H H' : Hp} (s : Same H H') : ∀ {vs : List V} {ds : List PyData}, DpAll K H vs ds → DpAll K H' vs ds
  | _, _, .nil => .nil
  | _, _, .cons h r => .cons (dp_same s h) (dpAll_same s r)
end
section
variable {S₁ S₂ B R T A U : Type} [Rp T] [Rp A] [Rp U] {X : Cx} {W : WX} {g : Bool} {ρe : Option (List Slot)} {ρ ρ' : List Slot} {st : Stmt} {rest sts : List Stmt} {n n1 : S₁ → List Slot} {n2 : S₂ → List Slot} {b : B → List Slot} {Z : Rt R} {e a tg : Expr} {pos : Pos} {lv : Nat}

/-! ### while -/
theorem n_while {c : Expr} {body : List Stmt} {ρl : S₁ → List Slot} {mc : S₁ → Res Bool} {f : S₁ → Res S₁} {s0 : S₁} (N : Nat) (C : CtxOk X W lv) (hc : ∀ s, TJ X W (ρl s) c (mc s)) (h0 : Wk ρ (ρl s0)) (hb : ∀ s, SN X W ρe (ρl s) body ρl (f s)) (w : ∀ s, WkO (ρl s) ρe := by intro _; trivial) :
    N1 X W ρe ρ (.While c body [] pos) ρl (whileM mc f N s0) := by
  have hx : ∃ tb : TS, PSs X body tb ∧ ∀ s, SNp X W ρe (ρl s) tb ρl (f s) := by
    refine ⟨fun D σ H => ∃ s, (∃ tb, PSs X body tb ∧ SNp X W ρe (ρl s) tb ρl (f s)) ∧ ∃ S own, RS X.K S (ρl s) σ H own ∧ Post (f s) (NxP X.K S own H D.nx ρl) (ErrS X.K W S own H ρe), ⟨fun pins s σ H D I h => ?_⟩, fun s S own σ H D rs h => ⟨s, (hb s).ex, S, own, rs, h⟩⟩
    obtain ⟨s, ⟨tb, p, q⟩, S, own, rs, h⟩ := h
    exact p.run pins _ σ H D I (q S own σ H D rs h)
  have hy : ∃ tc : TT, PT X c tc ∧ ∀ s, TJp X W (ρl s) tc (mc s) := by
    refine ⟨fun σ H Q => ∃ s, (∃ tc, PT X c tc ∧ TJp X W (ρl s) tc (mc s)) ∧ ∃ S own, RS X.K S (ρl s) σ H own ∧ Post (mc s) (fun b => ∀ H', Same H H' → Q b H') (ErrX X W S own σ H), ⟨fun pins s σ H Q I h => ?_⟩, fun s S own σ H Q rs h => ⟨s, (hc s).ex, S, own, rs, h⟩⟩
    obtain ⟨s, ⟨tc, p, q⟩, S, own, rs, h⟩ := h
    exact p.run pins _ σ H Q I (q S own σ H Q rs h)
  obtain ⟨tb, pb, qb⟩ := hx
  obtain ⟨tc, pc, qc⟩ := hy
  refine ⟨_, ps_while C.po pc pb, fun S own σ H D rs h => ?_⟩
  refine ⟨fun k σ' H' => ∃ s own', Ext own H own' H' ∧ RS X.K S (ρl s) σ' H' own' ∧ Post (whileM mc f k s) (NxP X.K S own H D.nx ρl) (ErrS X.K W S own H ρe), ⟨N, s0, own, Ext.refl, rs.wk h0, h⟩, fun k σ' H' hW => ?_⟩
  obtain ⟨s, own', x1, rs', hp⟩ := hW
  cases k with
  | zero => exact hp.elim
  | succ k =>
    refine qc s S own' σ' H' _ rs' ((show Post ((mc s).bind _) _ _ from hp).bind.imp (fun b hb H2 s2 => ?_) fun _ z => (z.mono x1).toX rs' (w s))
    have x2 := x1.trans (Ext.of_same (as := own') s2)
    cases b with
    | true =>
      rw [if_pos rfl]
      refine ⟨fun σ3 H3 => ∃ s' own3, Ext own H own3 H3 ∧ RS X.K S (ρl s') σ3 H3 own3 ∧ Post (whileM mc f k s') (NxP X.K S own H D.nx ρl) (ErrS X.K W S own H ρe), fun σ3 H3 hN => ⟨k, Nat.lt_succ_self _, hN⟩, ?_⟩
      exact qb s S own' σ' H2 _ (rs'.mono s2) ((show Post ((f s).bind _) _ _ from hb).bind.imp (fun s' hs' σ4 H4 own4 x4 rs4 => ⟨s', own4, x2.trans x4, rs4, hs'⟩) fun _ z => z.mono x2)
    | false =>
      rw [if_neg Bool.false_ne_true]
      exact (show NxP X.K S own H D.nx ρl s from hb) σ' H2 own' x2 (rs'.mono s2)
theorem c_while {c : Expr} {body : List Stmt} {ρl : S₁ → List Slot} {mc : S₁ → Res Bool} {f : S₁ → Res (Ctl S₁ S₁ R)} {s0 : S₁} (N : Nat) (C : CtxOk X W lv) (hc : ∀ s, TJ X W (ρl s) c (mc s)) (h0 : Wk ρ (ρl s0)) (hb : ∀ s, SC X W ρe (ρl s) body ρl ρl Z (f s)) (w : ∀ s, WkO (ρl s) ρe := by intro _; trivial) :
    C1 X W ρe ρ (.While c body [] pos) ρl b Z (whileC mc f N s0) := by
  have hx : ∃ tb : TS, PSs X body tb ∧ ∀ s, SCp X W ρe (ρl s) tb ρl ρl Z (f s) := by
    refine ⟨fun D σ H => ∃ s, (∃ tb, PSs X body tb ∧ SCp X W ρe (ρl s) tb ρl ρl Z (f s)) ∧ ∃ S own, RS X.K S (ρl s) σ H own ∧ Post (f s) (CtlP X.K S own H D ρl ρl Z) (ErrS X.K W S own H ρe), ⟨fun pins s σ H D I h => ?_⟩, fun s S own σ H D rs h => ⟨s, (hb s).ex, S, own, rs, h⟩⟩
    obtain ⟨s, ⟨tb, p, q⟩, S, own, rs, h⟩ := h
    exact p.run pins _ σ H D I (q S own σ H D rs h)
  have hy : ∃ tc : TT, PT X c tc ∧ ∀ s, TJp X W (ρl s) tc (mc s) := by
    refine ⟨fun σ H Q => ∃ s, (∃ tc, PT X c tc ∧ TJp X W (ρl s) tc (mc s)) ∧ ∃ S own, RS X.K S (ρl s) σ H own ∧ Post (mc s) (fun b => ∀ H', Same H H' → Q b H') (ErrX X W S own σ H), ⟨fun pins s σ H Q I h => ?_⟩, fun s S own σ H Q rs h => ⟨s, (hc s).ex, S, own, rs, h⟩⟩
    obtain ⟨s, ⟨tc, p, q⟩, S, own, rs, h⟩ := h
    exact p.run pins _ σ H Q I (q S own σ H Q rs h)
  obtain ⟨tb, pb, qb⟩ := hx
  obtain ⟨tc, pc, qc⟩ := hy
  refine ⟨_, ps_while C.po pc pb, fun S own σ H D rs h => ?_⟩
  refine ⟨fun k σ' H' => ∃ s own', Ext own H own' H' ∧ RS X.K S (ρl s) σ' H' own' ∧ Post (whileC mc f k s) (CtlP X.K S own H D ρl b Z) (ErrS X.K W S own H ρe), ⟨N, s0, own, Ext.refl, rs.wk h0, h⟩, fun k σ' H' hW => ?_⟩
  obtain ⟨s, own', x1, rs', hp⟩ := hW
  cases k with
  | zero => exact hp.elim
  | succ k =>
    refine qc s S own' σ' H' _ rs' ((show Post ((mc s).bind _) _ _ from hp).bind.imp (fun b hb H2 s2 => ?_) fun _ z => (z.mono x1).toX rs' (w s))
    have x2 := x1.trans (Ext.of_same (as := own') s2)
    cases b with
    | true =>
      rw [if_pos rfl]
      refine ⟨fun σ3 H3 => ∃ s' own3, Ext own H own3 H3 ∧ RS X.K S (ρl s') σ3 H3 own3 ∧ Post (whileC mc f k s') (CtlP X.K S own H D ρl _ Z) (ErrS X.K W S own H ρe), fun σ3 H3 hN => ⟨k, Nat.lt_succ_self _, hN⟩, ?_⟩
      refine qb s S own' σ' H2 _ (rs'.mono s2) ((show Post ((f s).bind _) _ _ from hb).bind.imp (fun z hz => ?_) fun _ z => z.mono x2)
      cases z with
      | nx s' => exact fun σ4 H4 own4 x4 rs4 => ⟨s', own4, x2.trans x4, rs4, hz⟩
      | ct s' => exact fun σ4 H4 own4 x4 rs4 => ⟨s', own4, x2.trans x4, rs4, hz⟩
      | bk s' => exact NxP.mono (show NxP X.K S own H D.nx ρl s' from hz) x2
      | rt r => exact RtP.mono (show RtP X.K S own H D.rt Z r from hz) x2
    | false =>
      rw [if_neg Bool.false_ne_true]
      exact (show NxP X.K S own H D.nx ρl s from hb) σ' H2 own' x2 (rs'.mono s2)

/-! ### comprehensions -/
abbrev WF : WX := fun _ _ _ _ => False
def lcX {T U : Type} (t : T → Res Bool) (f : T → Res U) (xs : List T) : Res (List U) := guardR (decide (xs.length ≤ sizeLine)) (lcM t f xs)
def wipeS (ρ : List Slot) : List Nat → List Slot
  | [] => ρ
  | v :: vs => (wipeS ρ vs).set v .non
theorem Rs.forget {K : PySem.W.Frag} {Hs H : Hp} {o : Option V} {σ : St} {ads : List Addr} (r : Rs K Hs H ρ σ ads) : ∀ i : Nat, ∃ ads', Rs K Hs H (ρ.set i .non) (σ.set i o) ads' ∧ ads'.Sublist ads := by
  induction r with
  | nil => intro i; exact ⟨[], .nil, List.Sublist.refl _⟩
  | non r ih =>
    intro i
    cases i with
    | zero => exact ⟨_, .non r, List.Sublist.refl _⟩
    | succ i => obtain ⟨a, q1, q2⟩ := ih i; exact ⟨a, .non q1, q2⟩
  | val h1 r ih =>
    intro i
    cases i with
    | zero => exact ⟨_, .non r, List.Sublist.refl _⟩
    | succ i => obtain ⟨a, q1, q2⟩ := ih i; exact ⟨a, .val h1 q1, q2⟩
  | own h0 h1 h2 r ih =>
    intro i
    cases i with
    | zero => exact ⟨_, .non r, List.sublist_cons_self _ _⟩
    | succ i => obtain ⟨a, q1, q2⟩ := ih i; exact ⟨_, .own h0 h1 h2 q1, q2.cons₂ _⟩
theorem RS.forget {K : PySem.W.Frag} {S own : List Addr} {σ : St} {H : Hp} (r : RS K S ρ σ H own) (i : Nat) (o : Option V) : RS K S (ρ.set i .non) (σ.set i o) H own := by
  obtain ⟨⟨ads, h1, h2, h3⟩, h4, h5⟩ := r
  obtain ⟨ads', q1, q2⟩ := h1.forget (o := o) i
  exact ⟨⟨ads', q1, h2.sublist q2, fun a ha => h3 a (q2.subset ha)⟩, h4, h5⟩
theorem RS.wipe {K : PySem.W.Frag} {S own : List Addr} {σ : St} {H : Hp} (r : RS K S ρ σ H own) : ∀ vs : List Nat, RS K S (wipeS ρ vs) (wipe σ vs) H own
  | [] => r
  | v :: vs => (RS.wipe r vs).forget v none
theorem wipe_wipe (σ : St) : ∀ vs ws : List Nat, (∀ i ∈ vs, i ∈ ws) → L2.wipe (L2.wipe σ vs) ws = L2.wipe σ ws
  | [], _, _ => rfl
  | v :: vs, ws, h => by
    show L2.wipe ((L2.wipe σ vs).set v none) ws = _
    rw [wipe_set (h v List.mem_cons_self)]
    exact wipe_wipe σ vs ws fun i hi => h i (List.mem_cons_of_mem _ hi)
theorem RS.hideNew {K : PySem.W.Frag} {S own : List Addr} {σ : St} {H H' : Hp} {D : Addr} {o : HO} (rs : RS K S ρ σ H own) (s : Same H H') (na : H D = none) (e : H' D = some o) : RS K S ρ σ H' (D :: own) := by
  obtain ⟨⟨ads, h1, h2, h3⟩, h4, h5⟩ := rs
  refine ⟨⟨ads, h1.mono (same_hide_new s na) fun b _ o q => s b o q, h2, fun b hb => List.mem_cons_of_mem _ (h3 b hb)⟩, fun b hb => ?_, fun b hb => ?_⟩
  · rcases List.mem_cons.mp hb with z | z
    · exact z ▸ fun q => h5 D (List.mem_append_left _ q) na
    · exact h4 b z
  · rcases List.mem_append.mp hb with z | z
    · exact dom_same s (h5 b (List.mem_append_left _ z))
    · rcases List.mem_cons.mp z with z | z
      · rw [z, e]; intro q; cases q
      · exact dom_same s (h5 b (List.mem_append_right _ z))
structure LcPart (X : Cx) (scope : Scope) (ρw : List Slot) (tg elt : Expr) (ifs : List Expr) {T U : Type} [Rp T] [Rp U] (u : List Slot → T → List Slot) (js : List Nat) (t : T → Res Bool) (f : T → Res U) (s : Shared) (H : Hp) (C : Addr) (cl : List (Str × Addr)) (fp : List Addr) : Prop where
  tg : GJ (X.blk s H scope (compEnvC scope cl C X.env) fp) tg u js
  ts : ∀ x, ∃ tt, PTs (X.blk s H scope (compEnvC scope cl C X.env) fp) ifs tt ∧ TJp (X.blk s H scope (compEnvC scope cl C X.env) fp) WF (u ρw x) tt (t x)
  el : ∀ x, EG (X.blk s H scope (compEnvC scope cl C X.env) fp) WF true (u ρw x) elt (f x)
theorem lc_none {ρ : List Slot} {Y : Cx} : ∃ tt, PTs Y [] tt ∧ TJp Y WF ρ tt (.ok true) := ⟨_, pts_nil, fun S own σ H Q rs h => h H (Same.refl H)⟩
theorem lc_one {ρ : List Slot} {Y : Cx} {c : Expr} {m : Res Bool} (h : TJ Y WF ρ c m) : ∃ tt, PTs Y [c] tt ∧ TJp Y WF ρ tt m := by
  obtain ⟨t, p, q⟩ := h.ex
  exact ⟨_, pts_one p, q⟩
theorem quiet_no {α : Type} {m : Res α} {ex : Ex} : m.quiet ≠ .err ex := by cases m <;> intro h <;> cases h
theorem lcM_no {α β : Type} {t : α → Res Bool} {f : α → Res β} {xs : List α} {ex : Ex} : lcM t f xs ≠ .err ex := by
  induction xs with
  | nil => intro h; cases h
  | cons x r ih =>
    unfold lcM
    cases e1 : (t x).quiet with
    | bad => intro h; cases h
    | err z => exact absurd e1 quiet_no
    | ok b =>
      cases b with
      | false => exact ih
      | true =>
        show ((f x).quiet.bind _) ≠ _
        cases e2 : (f x).quiet with
        | bad => intro h; cases h
        | err z => exact absurd e2 quiet_no
        | ok y =>
          show ((lcM t f r).bind _) ≠ _
          cases e3 : lcM t f r with
          | bad => intro h; cases h
          | err z =>
            intro h
            cases h
            exact ih e3
          | ok ys => intro h; cases h
/-- the reading of a comprehension -/
theorem lc_read {K : PySem.W.Frag} {vs : List Nat} {ρw : List Slot} {u : List Slot → T → List Slot} {js : List Nat} {t : T → Res Bool} {f : T → Res U} {gt : TG} {tt : TT} {te : TE} {xs : List T} {J : It} {S own : List Addr} {σ : St} {H1 : Hp} {Q : VK}
    (hj : ∀ i ∈ js, i ∈ vs) (rs : RS K S ρ σ H1 own) (hw : ρw = wipeS ρ vs) (wj : WJ K (S ++ own) H1 J xs)
    (hg : ∀ (S own : List Addr) (ρ : List Slot) (σ : St) (H : Hp) (v : V) (x : T) (Q : St → Hp → Prop), RS K S ρ σ H own → rp K (hide (S ++ own) H) v x → (∀ σ', RS K S (u ρ x) σ' H own → (∀ vs : List Nat, (∀ i ∈ js, i ∈ vs) → wipe σ' vs = wipe σ vs) → Q σ' H) → gt v σ H Q)
    (ht : ∀ (x : T) (S own : List Addr) (σ : St) (H : Hp) (Q : Bool → Hp → Prop), RS K S (u ρw x) σ H own → Post (t x).quiet (fun b => ∀ H', Same H H' → Q b H') (fun _ => True) → tt σ H Q)
    (he : ∀ (x : T) (S own : List Addr) (σ : St) (H : Hp) (Q : VK), RS K S (u ρw x) σ H own → Post (f x).quiet (fun y => ∀ H' v, Same H H' → rp K (hide (S ++ own) H') v y → Q v H') (fun _ => True) → te σ H Q)
    (hp : Post (lcX t f xs) (fun ys => ∀ H' a vs, Same H1 H' → H1 a = none → H' a = some (.lst vs) → RpAll K (hide (a :: (S ++ own)) H') vs ys → Q (.ref a) H') (fun _ => True)) :
    ∀ D, H1 D = none → ∃ W : Nat → Nat → Hp → Prop, (∃ m, W 0 m (upd H1 D (.lst []))) ∧ ∀ i m H, W i m H →
      (J.stop i H ∧ Q (.ref D) H) ∨ (J.go i H ∧ ∃ Nx : Hp → Prop, (∀ H', Nx H' → ∃ m', m' < m ∧ W (i + 1) m' H') ∧ ∀ x H', J.yld i H x H' → gt x (wipe σ vs) H' fun σ2 H2 => wipe σ2 vs = wipe σ vs ∧ tt σ2 H2 fun b H3 =>
        if b = true then te σ2 H3 fun y H4 => ∃ acc, H4 D = some (.lst acc) ∧ acc.length < sizeLine ∧ Nx (upd H4 D (.lst (acc ++ [y]))) else Nx H3) := by
  intro D nD
  obtain ⟨hz, hp⟩ := hp.guard
  have hz : xs.length ≤ sizeLine := of_decide_eq_true hz
  let I : Nat → Hp → Prop := fun i H' => ∃ acc ys, Same H1 H' ∧ H' D = some (.lst acc) ∧ acc.length ≤ i ∧ RpAll K (hide (S ++ D :: own) H') acc ys ∧
    Post (lcM t f (xs.drop i)) (fun zs => ∀ H' a vs, Same H1 H' → H1 a = none → H' a = some (.lst vs) → RpAll K (hide (a :: (S ++ own)) H') vs (ys ++ zs) → Q (.ref a) H') (fun _ => True)
  refine ⟨fun i m H' => i + m = xs.length ∧ I i H', ⟨xs.length, Nat.zero_add _, [], [], same_upd nD, upd_same, Nat.zero_le _, .nil, hp⟩, fun i m H' hW => ?_⟩
  obtain ⟨em, acc, ys, sm, eD, la, ra, hq⟩ := hW
  have rsD : RS K S ρ σ H' (D :: own) := rs.hideNew sm nD eD
  have sight : Same (hide (S ++ own) H1) (hide (S ++ D :: own) H') := same_hide_new sm nD
  by_cases hi : i < xs.length
  · refine .inr ⟨wj.goes i H' hi (sight.trans hide_sub), I (i + 1), fun H2 hN => ⟨m - 1, by omega, by omega, hN⟩, fun v H2 hy => ?_⟩
    obtain ⟨s2, r2⟩ := wj.yields i H' v H2 xs[i] (S ++ D :: own) (List.getElem?_eq_getElem hi) sight rsD.dom hy
    have rs2 := rsD.mono s2
    rw [List.drop_eq_getElem_cons hi] at hq
    refine hg S (D :: own) ρw (wipe σ vs) H2 v xs[i] _ (hw ▸ rs2.wipe vs) r2 fun σ3 rs3 tz => ⟨(tz vs hj).trans (wipe_wipe σ vs vs fun _ h => h), ?_⟩
    refine ht xs[i] S (D :: own) σ3 H2 _ rs3 ((show Post ((t xs[i]).quiet.bind _) _ _ from hq).bind.imp (fun b hb H3 s3 => ?_) fun _ z => z)
    have s23 := s2.trans s3
    cases b with
    | false =>
      rw [if_neg Bool.false_ne_true]
      exact ⟨acc, ys, sm.trans s23, s23 _ _ eD, by omega, RpAll.mono (hide_same s23) ra, hb⟩
    | true =>
      rw [if_pos rfl]
      refine he xs[i] S (D :: own) σ3 H3 _ (rs3.mono s3) ((show Post ((f xs[i]).quiet.bind _) _ _ from hb).bind.imp (fun y hy H4 w s4 r4 => ?_) fun _ z => z)
      have s24 := s23.trans s4
      have hin : D ∈ S ++ D :: own := List.mem_append_right _ List.mem_cons_self
      refine ⟨acc, s24 _ _ eD, by omega, acc ++ [w], ys ++ [y], fun b o eb => ?_, upd_same, by rw [List.length_append]; exact Nat.succ_le_succ la, ?_, ?_⟩
      · rw [upd_ne (ne_of_none eb nD)]
        exact (sm.trans s24) b o eb
      · rw [hide_upd_in hin]
        exact (RpAll.mono (hide_same s24) ra).append (.cons r4 .nil)
      · refine (show Post ((lcM t f (xs.drop (i + 1))).bind fun ys => .ok (y :: ys)) _ _ from hy).bind.imp (fun zs hzs H5 a vs5 s5 na e5 r5 => ?_) fun _ z => z
        rw [List.append_assoc] at r5
        exact hzs H5 a vs5 s5 na e5 r5
  · refine .inl ⟨?_, ?_⟩
    · have e1 : i = xs.length := by omega
      rw [e1]
      exact wj.stops H' (sight.trans hide_sub)
    · rw [List.drop_eq_nil_of_le (by omega)] at hq
      refine (show ∀ H' a vs, _ from hq) H' D acc sm nD eD ?_
      rw [List.append_nil]
      refine RpAll.mono (hide_mono fun b hb => ?_) ra
      rcases List.mem_cons.mp hb with z | z
      · exact z ▸ List.mem_append_right _ List.mem_cons_self
      · rcases List.mem_append.mp z with z | z
        · exact List.mem_append_left _ z
        · exact List.mem_append_right _ (List.mem_cons_of_mem _ z)
theorem Post.quiet_of {α : Type} {m : Res α} {Q : α → Prop} {E E' : Ex → Prop} (h : Post m.quiet Q E) : Post m Q E' := h.quiet
/-- target, tests and element of a comprehension, for all its frames at once -/
theorem lc_uni {scope : Scope} {ρw : List Slot} {elt : Expr} {ifs : List Expr} {u : List Slot → T → List Slot} {js : List Nat} {t : T → Res Bool} {f : T → Res U} (h : ∀ s H C cl fp, LcPart X scope ρw tg elt ifs u js t f s H C cl fp) :
    ∃ (gt : TG) (tt : TT) (te : TE), (∀ s H C cl fp, PG (X.blk s H scope (compEnvC scope cl C X.env) fp) tg gt) ∧ (∀ s H C cl fp, PTs (X.blk s H scope (compEnvC scope cl C X.env) fp) ifs tt) ∧ (∀ s H C cl fp, PE (X.blk s H scope (compEnvC scope cl C X.env) fp) elt te) ∧
      (∀ (S own : List Addr) (ρ : List Slot) (σ : St) (H : Hp) (v : V) (x : T) (Q : St → Hp → Prop), RS X.K S ρ σ H own → rp X.K (hide (S ++ own) H) v x → (∀ σ', RS X.K S (u ρ x) σ' H own → (∀ vs : List Nat, (∀ i ∈ js, i ∈ vs) → wipe σ' vs = wipe σ vs) → Q σ' H) → gt v σ H Q) ∧
      (∀ (x : T) (S own : List Addr) (σ : St) (H : Hp) (Q : Bool → Hp → Prop), RS X.K S (u ρw x) σ H own → Post (t x).quiet (fun b => ∀ H', Same H H' → Q b H') (fun _ => True) → tt σ H Q) ∧
      (∀ (x : T) (S own : List Addr) (σ : St) (H : Hp) (Q : VK), RS X.K S (u ρw x) σ H own → Post (f x).quiet (fun y => ∀ H' v, Same H H' → rp X.K (hide (S ++ own) H') v y → Q v H') (fun _ => True) → te σ H Q) := by
  refine ⟨fun v σ H Q => ∀ s0 H0 C cl fp, ∃ gt, PG (X.blk s0 H0 scope (compEnvC scope cl C X.env) fp) tg gt ∧ gt v σ H Q,
    fun σ H Q => ∀ s0 H0 C cl fp, ∃ tt, PTs (X.blk s0 H0 scope (compEnvC scope cl C X.env) fp) ifs tt ∧ tt σ H Q,
    fun σ H Q => ∀ s0 H0 C cl fp, ∃ te, PE (X.blk s0 H0 scope (compEnvC scope cl C X.env) fp) elt te ∧ te σ H Q, ?_, ?_, ?_, ?_, ?_, ?_⟩
  · refine fun s H C cl fp => ⟨fun pins s1 σ H1 v w Q I r hq => ?_⟩
    obtain ⟨gt, p, q⟩ := hq s H C cl fp
    exact p.run pins s1 σ H1 v w Q I r q
  · refine fun s H C cl fp => ⟨fun pins s1 σ H1 Q I hq => ?_⟩
    obtain ⟨tt, p, q⟩ := hq s H C cl fp
    exact p.run pins s1 σ H1 Q I q
  · refine fun s H C cl fp => ⟨fun pins s1 σ H1 Q I hq => ?_⟩
    obtain ⟨te, p, q⟩ := hq s H C cl fp
    exact p.run pins s1 σ H1 Q I q
  · intro S own ρ σ H v x Q rs r hq s0 H0 C cl fp
    obtain ⟨gt, p, q⟩ := (h s0 H0 C cl fp).tg.ex
    exact ⟨gt, p, q S own ρ σ H v x Q rs r hq⟩
  · intro x S own σ H Q rs hq s0 H0 C cl fp
    obtain ⟨tt, p, q⟩ := (h s0 H0 C cl fp).ts x
    exact ⟨tt, p, q S own σ H Q rs hq.quiet⟩
  · intro x S own σ H Q rs hq s0 H0 C cl fp
    obtain ⟨te, p, q⟩ := ((h s0 H0 C cl fp).el x).ex
    exact ⟨te, p, q S own σ H Q rs hq.quiet⟩
theorem lcX_quiet {α β : Type} {t : α → Res Bool} {f : α → Res β} {xs : List α} {Q : List β → Prop} {E E' : Ex → Prop} (h : Post (lcX t f xs) Q E) : Post (lcX t f xs) Q E' := by
  obtain ⟨h1, h2⟩ := h.guard
  unfold lcX guardR
  rw [h1, if_pos rfl]
  cases e1 : lcM t f xs with
  | ok a => rw [e1] at h2; exact h2
  | bad => rw [e1] at h2; exact h2
  | err z => exact absurd e1 lcM_no
theorem f_lc {elt iter : Expr} {ifs : List Expr} {scope : Scope} {ow : List (Str × Nat)} {ρw : List Slot} {u : List Slot → T → List Slot} {js : List Nat} {t : T → Res Bool} {f : T → Res U} {m : Res (List T)} (C : CtxOk X W lv) (hi : IJ X W ρ tg iter m)
    (h : ∀ s H C cl fp, LcPart X scope ρw tg elt ifs u js t f s H C cl fp) (hw : ρw = wipeS ρ (ow.map (·.2)) := by rfl) (hj : ∀ i ∈ js, i ∈ ow.map (·.2) := by decide) (ok : BlkOk X.N X.env.scope scope ow := by exact blkOk_by (by rfl)) (hs : ∀ x, foldedSetIterable iter X.env x = pure x := by intro _; rfl) :
    FG X W ρ (.ListComp elt [⟨tg, iter, ifs, 0⟩] scope pos) (m.bind fun xs => lcX t f xs) := by
  obtain ⟨wi, pi, qi⟩ := hi.ex
  obtain ⟨gt, tt, te, pg, pt, pe, hg, ht, he⟩ := lc_uni h
  refine ⟨_, pe_lc C.calm C.nd pi ok pg pt pe hs, fun S own σ H Q rs hP => qi S own σ H _ rs (hP.bind.imp (fun xs hx J H1 s1 wj => ?_) fun _ z => z)⟩
  refine lc_read hj (rs.mono s1) hw wj hg ht he (Post.imp (lcX_quiet hx (E' := fun _ => True)) (fun ys hy H' a vs s na e1 e2 => hy H' a vs (s1.trans s) (s1.free na) e1 e2) fun _ z => z)
/-- y = [..], a local -/
theorem n_lcF (i : Nat) {y : Str} {py spos : Pos} {elt iter : Expr} {ifs : List Expr} {scope : Scope} {ow : List (Str × Nat)} {ρw : List Slot} {u : List Slot → T → List Slot} {js : List Nat} {t : T → Res Bool} {f : T → Res U} {m : Res (List T)} {n3 : List U → List Slot} (C : CtxOk X W lv) (hi : IJ X W ρ tg iter m)
    (h : ∀ s H C cl fp, LcPart X scope ρw tg elt ifs u js t f s H C cl fp) (hn : ∀ v, n3 v = ρ.set i (.own U none v) := by intro _; rfl) (hw : ρw = wipeS ρ (ow.map (·.2)) := by rfl) (hl : i < ρ.length := by exact Nat.le_of_ble_eq_true rfl) (hj : ∀ i ∈ js, i ∈ ow.map (·.2) := by decide) (w : WkO ρ ρe := by trivial)
    (hy : X.N[i]? = some y := by rfl) (hyl : X.env.scope.names.lookup y = some .local := by rfl) (hsw : swapsWith (.ListComp elt [⟨tg, iter, ifs, 0⟩] scope pos) (some (.Name y py)) spos.line X.env = pure true := by exact sw_true rfl rfl rfl (by decide +kernel))
    (ok : BlkOk X.N X.env.scope scope ow := by exact blkOk_by (by rfl)) (hs : ∀ x, foldedSetIterable iter X.env x = pure x := by intro _; rfl) :
    N1 X W ρe ρ (.Assign [.Name y py] (.ListComp elt [⟨tg, iter, ifs, 0⟩] scope pos) spos) n3 (m.bind fun xs => lcX t f xs) := by
  obtain ⟨wi, pi, qi⟩ := hi.ex
  obtain ⟨gt, tt, te, pg, pt, pe, hg, ht, he⟩ := lc_uni h
  refine ⟨_, ps_setLc C.calm C.nd hy hyl hsw pi ok pg pt pe hs, fun S own σ H D rs hP => qi S own σ H _ rs (hP.bind.imp (fun xs hx J H1 s1 wj => ?_) fun _ z => z.toX rs w)⟩
  refine lc_read (Q := fun v H2 => D.nx (σ.set i (some v)) H2) hj (rs.mono s1) hw wj hg ht he (Post.imp (lcX_quiet hx (E' := fun _ => True)) (fun ys hy H' a vs s na e1 e2 => hy _ H' (a :: own) ⟨fun b o z _ => (s1.trans s) b o z, fun b z => dom_same (s1.trans s) z, fun b z => ?_⟩ ?_) fun _ z => z)
  · rcases List.mem_cons.mp z with z | z
    · exact .inr (z ▸ s1.free na)
    · exact .inl z
  · rw [hn]
    exact rs.setOwn (s1.trans s) (s1.free na) e1 e2 i hl
/-- .. only read from then on -/
theorem n_lc (i : Nat) {y : Str} {py spos : Pos} {elt iter : Expr} {ifs : List Expr} {scope : Scope} {ow : List (Str × Nat)} {ρw : List Slot} {u : List Slot → T → List Slot} {js : List Nat} {t : T → Res Bool} {f : T → Res U} {m : Res (List T)} {n3 : List U → List Slot} (C : CtxOk X W lv) (hi : IJ X W ρ tg iter m)
    (h : ∀ s H C cl fp, LcPart X scope ρw tg elt ifs u js t f s H C cl fp) (hn : ∀ v, n3 v = ρ.set i (.val (List U) v) := by intro _; rfl) (hw : ρw = wipeS ρ (ow.map (·.2)) := by rfl) (hj : ∀ i ∈ js, i ∈ ow.map (·.2) := by decide) (w : WkO ρ ρe := by trivial)
    (hy : X.N[i]? = some y := by rfl) (hyl : X.env.scope.names.lookup y = some .local := by rfl) (hsw : swapsWith (.ListComp elt [⟨tg, iter, ifs, 0⟩] scope pos) (some (.Name y py)) spos.line X.env = pure true := by exact sw_true rfl rfl rfl (by decide +kernel))
    (ok : BlkOk X.N X.env.scope scope ow := by exact blkOk_by (by rfl)) (hs : ∀ x, foldedSetIterable iter X.env x = pure x := by intro _; rfl) :
    N1 X W ρe ρ (.Assign [.Name y py] (.ListComp elt [⟨tg, iter, ifs, 0⟩] scope pos) spos) n3 (m.bind fun xs => lcX t f xs) := by
  obtain ⟨wi, pi, qi⟩ := hi.ex
  obtain ⟨gt, tt, te, pg, pt, pe, hg, ht, he⟩ := lc_uni h
  refine ⟨_, ps_setLc C.calm C.nd hy hyl hsw pi ok pg pt pe hs, fun S own σ H D rs hP => qi S own σ H _ rs (hP.bind.imp (fun xs hx J H1 s1 wj => ?_) fun _ z => z.toX rs w)⟩
  refine lc_read (Q := fun v H2 => D.nx (σ.set i (some v)) H2) hj (rs.mono s1) hw wj hg ht he (Post.imp (lcX_quiet hx (E' := fun _ => True)) (fun ys hy H' a vs s na e1 e2 => hy _ H' own (Ext.of_same (s1.trans s)) ?_) fun _ z => z)
  rw [hn]
  have e3 : hide (S ++ own) H' a = some (.lst vs) := by
    rw [hide_out fun z => (rs.mono s1).dom a z na]
    exact e1
  have r : rp X.K (hide (S ++ own) H') (V.ref a) ys := ⟨a, vs, rfl, e3, RpAll.mono (hide_mono fun z hz => List.mem_cons_of_mem _ hz) e2⟩
  exact (rs.mono (s1.trans s)).set r i
/-- the frame of a comprehension's block -/
theorem CtxOk.blk (C : CtxOk X W lv) {s : Shared} {H : Hp} {scope : Scope} {cenv : Env} {fp : List Addr} : CtxOk (X.blk s H scope cenv fp) WF lv :=
  ⟨C.calm, C.nd, takes0, PassesOwn.never, C.room⟩

/-! ### calls of defs -/
def spOf (K : PySem.W.Frag) {A R : Type} [Rp R] (as : A → List AV) (f : A → Res R) : Sp := fun vs H Q E => ∃ (S : List Addr) (x : A), (∀ a ∈ S, H a ≠ none) ∧ ArgsR K (hide S H) vs (as x) ∧
  Post (f x) (fun r => ∀ H' v, Same H H' → rp K (hide S H') v r → Q v H') (fun e => ∀ H' c d, Same H H' → ExR K (hide S H') c d e → E c d H')
def spFr (K : PySem.W.Frag) {A T : Type} [Rp T] (as : A → List AV) (f : A → Res (List T)) : Sp := fun vs H Q E => ∃ (S : List Addr) (x : A), (∀ a ∈ S, H a ≠ none) ∧ ArgsR K (hide S H) vs (as x) ∧
  Post (f x) (fun r => ∀ H' a vs, Same H H' → H a = none → H' a = some (.lst vs) → RpAll K (hide (a :: S) H') vs r → Q (.ref a) H') (fun e => ∀ H' c d, Same H H' → ExR K (hide S H') c d e → E c d H')
structure FOk (P : Program) (w : World) (K : PySem.W.Frag) (mg : Str → Option Value) (base : Heap) (name : Str) (k : Nat) (sp : Sp) : Prop where
  ok : ∃ fd ps, FnOk P w K mg base (CX P w) k (He.ga K name) fd ps sp ∧ Binds K fd ps []
  kp : PySem.W.keepIn K (.ref (He.ga K name)) = true
  gl : mg name = some (.ref (He.ga K name))
theorem call_err {S own : List Addr} {σ : St} {H H' : Hp} {g : Bool} {ex : Ex} (h : ErrX X W S own σ H ex) (s : Same H H') (hg : g = true) : ∀ H2 c d, Same H' H2 → ExR X.K (hide (reg g S own) H2) c d ex → WE W σ c d H2 := fun H2 c d s2 x => by
  subst hg
  exact h H2 c d (s.trans s2) x
theorem e_call {x : Str} {p : Pos} {es : List Expr} {A R : Type} [Rp R] {as : A → List AV} {f : A → Res R} {m : Res R} {k : Nat} (C : CtxOk X W lv) (F : FOk X.prog X.w X.K X.mg X.base x k (spOf X.K as f)) (ha : AJ X W true ρ (a :: es) as f m) (hk : k ≤ lv := by decide)
    (hg : Gl X x := by rfl) (hdb : (x == ("__debug__" : Str)) = false := by decide) (he : starEach (a :: es) X.env = (false, eval a X.env) :: starEach es X.env := by rfl) (hpl : (backTo pos (starEach es X.env)).any (·.1) = false := by rfl) :
    EG X W true ρ (.Call (.Name x p) (a :: es) [] pos) m := by
  obtain ⟨t, pa, qa⟩ := ha.ex
  obtain ⟨fd, ps, F1, F2⟩ := F.ok
  refine ⟨_, pe_callS F1 (C.room.mono hk) hg F.gl F.kp F2 (fun σ => passAt C.tk σ) pa hdb he hpl, fun S own σ H Q rs h => ?_⟩
  refine qa S own σ H _ _ _ rs (fun e z => z) h fun x vs H' s r hx => ⟨S ++ own, x, (rs.mono s).dom, r, hx.imp (fun y hy H2 v s2 r2 => hy H2 v (s.trans s2) r2) fun ex z => call_err (g := true) z s rfl⟩
theorem e_call0 {x : Str} {p : Pos} {A R : Type} [Rp R] {as : A → List AV} {f : A → Res R} {k : Nat} (C : CtxOk X W lv) (F : FOk X.prog X.w X.K X.mg X.base x k (spOf X.K as f)) (u : A) (hu : as u = [] := by rfl) (hk : k ≤ lv := by decide)
    (hg : Gl X x := by rfl) (hdb : (x == ("__debug__" : Str)) = false := by decide) : EG X W true ρ (.Call (.Name x p) [] [] pos) (f u).quiet := by
  obtain ⟨fd, ps, F1, F2⟩ := F.ok
  refine ⟨_, pe_call0 F1 (C.room.mono hk) hg F.gl F.kp F2 .nil passL hdb, fun S own σ H Q rs h => ⟨S ++ own, u, rs.dom, hu ▸ .nil, Post.imp (h.quiet (E' := fun _ => False)) (fun y hy H2 v s2 r2 => hy H2 v s2 r2) fun _ z => z.elim⟩⟩
/-- lists of one's own are lent; what would be raised is not served -/
theorem e_callb {x : Str} {p : Pos} {es : List Expr} {A R : Type} [Rp R] {as : A → List AV} {f : A → Res R} {m : Res R} {k : Nat} (C : CtxOk X W lv) (F : FOk X.prog X.w X.K X.mg X.base x k (spOf X.K as f)) (ha : AJ X W false ρ (a :: es) as (fun x => (f x).quiet) m) (hk : k ≤ lv := by decide)
    (hg : Gl X x := by rfl) (hdb : (x == ("__debug__" : Str)) = false := by decide) (he : starEach (a :: es) X.env = (false, eval a X.env) :: starEach es X.env := by rfl) (hpl : (backTo pos (starEach es X.env)).any (·.1) = false := by rfl) :
    EG X W false ρ (.Call (.Name x p) (a :: es) [] pos) m := by
  obtain ⟨t, pa, qa⟩ := ha.ex
  obtain ⟨fd, ps, F1, F2⟩ := F.ok
  refine ⟨_, pe_callS F1 (C.room.mono hk) hg F.gl F.kp F2 (fun σ => passAt C.tk σ) pa hdb he hpl, fun S own σ H Q rs h => ?_⟩
  refine qa S own σ H _ _ _ rs (fun e z => z) h fun x vs H' s r hx => ⟨S, x, fun b hb => (rs.mono s).dom b (List.mem_append_left _ hb), r, Post.imp (hx.quiet (E' := fun _ => False)) (fun y hy H2 v s2 r2 => hy H2 v (s.trans s2) r2) fun _ z => z.elim⟩
theorem f_call {x : Str} {p : Pos} {es : List Expr} {A : Type} {as : A → List AV} {f : A → Res (List T)} {m : Res (List T)} {k : Nat} (C : CtxOk X W lv) (F : FOk X.prog X.w X.K X.mg X.base x k (spFr X.K as f)) (ha : AJ X W true ρ (a :: es) as f m) (hk : k ≤ lv := by decide)
    (hg : Gl X x := by rfl) (hdb : (x == ("__debug__" : Str)) = false := by decide) (he : starEach (a :: es) X.env = (false, eval a X.env) :: starEach es X.env := by rfl) (hpl : (backTo pos (starEach es X.env)).any (·.1) = false := by rfl) :
    FG X W ρ (.Call (.Name x p) (a :: es) [] pos) m := by
  obtain ⟨t, pa, qa⟩ := ha.ex
  obtain ⟨fd, ps, F1, F2⟩ := F.ok
  refine ⟨_, pe_callS F1 (C.room.mono hk) hg F.gl F.kp F2 (fun σ => passAt C.tk σ) pa hdb he hpl, fun S own σ H Q rs h => ?_⟩
  refine qa S own σ H _ _ _ rs (fun e z => z) h fun x vs H' s r hx => ⟨S ++ own, x, (rs.mono s).dom, r, hx.imp (fun y hy H2 a vs s2 na e1 e2 => hy H2 a vs (s.trans s2) (s.free na) e1 e2) fun ex z => call_err (g := true) z s rfl⟩

/-! ### defs -/
def AV.slot : AV → Slot
  | @AV.mk T inst x => @Slot.val T inst x
theorem rs_args {K : PySem.W.Frag} {H Hs : Hp} {vs : List V} {xs : List AV} (h : ArgsR K Hs vs xs) (k : Nat) : Rs K Hs H (xs.map AV.slot ++ List.replicate k .non) (vs.map some ++ List.replicate k none) [] := by
  induction h with
  | nil =>
    induction k with
    | zero => exact .nil
    | succ k ih => exact .non ih
  | @cons v vs x xs r _ ih =>
    cases x with
    | @mk T inst x => exact @Rs.val K Hs H _ _ _ T inst x v r ih
theorem rs_start {K : PySem.W.Frag} {S : List Addr} {H : Hp} {N : List Str} {vs : List V} {xs : List AV} (h : ArgsR K (hide S H) vs xs) (hd : ∀ a ∈ S, H a ≠ none) : RS K S (xs.map AV.slot ++ List.replicate (N.length - vs.length) .non) (start N vs) H [] := by
  refine ⟨⟨[], ?_, List.nodup_nil, (fun _ z => nomatch z)⟩, (fun _ z => nomatch z), fun a ha => hd a (by rw [List.append_nil] at ha; exact ha)⟩
  rw [List.append_nil]
  exact rs_args h _
abbrev fcx (P : Program) (w : World) (K : PySem.W.Frag) (mg : Str → Option Value) (base : Heap) (N : List Str) (qual : Str) (scope : Scope) (f : Addr) (cdv : Value) (A : Around) (outer : List Env) (s : Shared) (H : Hp) (E : XK) : Cx := cxOf (CX P w) P w K mg base N qual scope f cdv A outer s H E
section
variable {P : Program} {w : World} {K : PySem.W.Frag} {mg : Str → Option Value} {base : Heap} {x qual : Str} {params : Arguments} {body : List Stmt} {scope : Scope} {kws : List (Str × V)} {fd : FuncData} {N ps : List Str} {k : Nat} {A : Type} {as : A → List AV}
theorem fctx {f : Addr} {cdv : Value} {A : Around} {outer : List Env} {s : Shared} {H : Hp} {E : XK} (S : FnScope N ps scope) (hr : Room k (A.deeper (PyProof.Rows.envOfC qual scope s.heap.objs.size f cdv))) : CtxOk (fcx P w K mg base N qual scope f cdv A outer s H E) (fun c d _ H' => E c d H') k :=
  ⟨rfl, S.nd, takes_of rfl rfl rfl rfl, passes_of rfl, hr⟩
/-- a def that hands back a value -/
theorem fok_data {R : Type} [Rp R] {f : A → Res R} {ρ0 : A → List Slot} (F : FunD K x qual params body scope [] kws (He.ga K x) fd) (hgl : mg x = some (.ref (He.ga K x))) (S : FnScope N ps scope) (hb : Binds K fd ps []) (hl : ∀ u, (as u).length = ps.length := by intro _; rfl)
    (h0 : ∀ u, ρ0 u = (as u).map AV.slot ++ List.replicate (N.length - ps.length) .non := by intro _; rfl)
    (d : ∀ cdv A outer s H E, CtxOk (fcx P w K mg base N qual scope (He.ga K x) cdv A outer s H E) (fun c d _ H' => E c d H') k → ∀ u, SR (fcx P w K mg base N qual scope (He.ga K x) cdv A outer s H E) (fun c d _ H' => E c d H') none (ρ0 u) body (retD R) (f u)) :
    FOk P w K mg base x (k + 1) (spOf K as f) := by
  refine ⟨⟨fd, ps, FunD.ok F S (fun vs H Q E h => ?_) (fun cdv A outer s H vs Q E hr h => ?_), hb⟩, F.kp, hgl⟩
  · obtain ⟨S', u, _, r, _⟩ := h
    rw [r.length, hl]
  · obtain ⟨S', u, hd, r, hp⟩ := h
    obtain ⟨t, p, q⟩ := (d cdv A outer s H E (fctx S hr) u).ex
    refine ⟨t, p, q S' [] _ H _ ?_ (hp.imp (fun y hy v σ' H' own' x' _ z => hy H' v x'.nil_same (Rp.mono (hide_mono fun b hb => List.mem_append_left _ hb) z)) fun e he σ' H' own' c d x' _ z => ?_)⟩
    · rw [h0, ← hl u, ← r.length]
      exact rs_start r hd
    · obtain ⟨z1, dx, fs, z2, z3, z4⟩ := z
      refine he H' c d x'.nil_same ⟨z1, dx, fs, z2, hide_mono (fun b hb => List.mem_append_left _ hb) _ _ z3, Paired.imp2 z4 fun a b z => ⟨z.1, ?_⟩⟩
      exact (dp_same (hide_mono fun b hb => List.mem_append_left _ hb) z.2)
end
end
end Py

set_option Elab.async false
set_option linter.all false
set_option maxRecDepth 100000
set_option maxHeartbeats 1000000
/-! Py, part G: defs (further), isinstance, is, == of data. -/
namespace Py
open PySem PySem.Spec L2
open Rp (rp)

section
variable {P : Program} {w : World} {K : PySem.W.Frag} {mg : Str → Option Value} {base : Heap} {x qual : Str} {params : Arguments} {body : List Stmt} {scope : Scope} {kws : List (Str × V)} {fd : FuncData} {N ps : List Str} {k : Nat} {A : Type} {as : A → List AV}
theorem exr_sub {K : PySem.W.Frag} {H H' : Hp} {c : Value} {d : Option Addr} {e : Ex} (s : Same H H') (h : ExR K H c d e) : ExR K H' c d e := by
  obtain ⟨z1, dx, fs, z2, z3, z4⟩ := h
  exact ⟨z1, dx, fs, z2, s _ _ z3, Paired.imp2 z4 fun a b z => ⟨z.1, dp_same s z.2⟩⟩
/-- a def that hands back a new list -/
theorem fok_fr {T : Type} [Rp T] {f : A → Res (List T)} {ρ0 : A → List Slot} (F : FunD K x qual params body scope [] kws (He.ga K x) fd) (hgl : mg x = some (.ref (He.ga K x))) (S : FnScope N ps scope) (hb : Binds K fd ps []) (hl : ∀ u, (as u).length = ps.length := by intro _; rfl)
    (h0 : ∀ u, ρ0 u = (as u).map AV.slot ++ List.replicate (N.length - ps.length) .non := by intro _; rfl)
    (d : ∀ cdv A outer s H E, CtxOk (fcx P w K mg base N qual scope (He.ga K x) cdv A outer s H E) (fun c d _ H' => E c d H') k → ∀ u, SR (fcx P w K mg base N qual scope (He.ga K x) cdv A outer s H E) (fun c d _ H' => E c d H') none (ρ0 u) body (retF T) (f u)) :
    FOk P w K mg base x (k + 1) (spFr K as f) := by
  refine ⟨⟨fd, ps, FunD.ok F S (fun vs H Q E h => ?_) (fun cdv A outer s H vs Q E hr h => ?_), hb⟩, F.kp, hgl⟩
  · obtain ⟨S', u, _, r, _⟩ := h
    rw [r.length, hl]
  · obtain ⟨S', u, hd, r, hp⟩ := h
    obtain ⟨t, p, q⟩ := (d cdv A outer s H E (fctx S hr) u).ex
    refine ⟨t, p, q S' [] _ H _ ?_ (hp.imp (fun y hy v σ' H' own' x' _ z => ?_) fun e he σ' H' own' c d x' _ z => he H' c d x'.nil_same (exr_sub (hide_mono fun b hb => List.mem_append_left _ hb) z))⟩
    · rw [h0, ← hl u, ← r.length]
      exact rs_start r hd
    · obtain ⟨a, vs', rfl, ha, e1, e2⟩ := z
      have na : H a = none := (x'.own a ha).resolve_left (fun z => nomatch z)
      refine hy H' a vs' x'.nil_same na e1 (RpAll.mono (hide_mono fun b hb => ?_) e2)
      rcases List.mem_cons.mp hb with z | z
      · exact z ▸ List.mem_append_right _ ha
      · exact List.mem_append_left _ z
/-- a new list is a value -/
theorem FOk.fr {T : Type} [Rp T] {f : A → Res (List T)} {k : Nat} (F : FOk P w K mg base x k (spFr K as f)) : FOk P w K mg base x k (spOf K as f) := by
  obtain ⟨⟨fd, ps, F1, F2⟩, h2, h3⟩ := F
  refine ⟨⟨fd, ps, F1.imp fun vs H Q E h => ?_, F2⟩, h2, h3⟩
  obtain ⟨S, u, hd, r, hp⟩ := h
  refine ⟨S, u, hd, r, hp.imp (fun y hy H' a vs' s na e1 e2 => hy H' _ s ⟨a, vs', rfl, ?_, RpAll.mono (hide_mono fun z hz => List.mem_cons_of_mem _ hz) e2⟩) fun _ z => z⟩
  rw [hide_out fun z => hd a z na]
  exact e1
/-- a def that hands back None at its end -/
theorem fok_none {S₁ : Type} {f : A → Res S₁} {n : S₁ → List Slot} {ρ0 : A → List Slot} (F : FunD K x qual params body scope [] kws (He.ga K x) fd) (hgl : mg x = some (.ref (He.ga K x))) (S : FnScope N ps scope) (hb : Binds K fd ps []) (hl : ∀ u, (as u).length = ps.length := by intro _; rfl)
    (h0 : ∀ u, ρ0 u = (as u).map AV.slot ++ List.replicate (N.length - ps.length) .non := by intro _; rfl)
    (d : ∀ cdv A outer s H E, CtxOk (fcx P w K mg base N qual scope (He.ga K x) cdv A outer s H E) (fun c d _ H' => E c d H') k → ∀ u, SN (fcx P w K mg base N qual scope (He.ga K x) cdv A outer s H E) (fun c d _ H' => E c d H') none (ρ0 u) body n (f u)) :
    FOk P w K mg base x (k + 1) (spOf K as fun u => (f u).bind fun _ => .ok ()) := by
  refine ⟨⟨fd, ps, FunD.ok F S (fun vs H Q E h => ?_) (fun cdv A outer s H vs Q E hr h => ?_), hb⟩, F.kp, hgl⟩
  · obtain ⟨S', u, _, r, _⟩ := h
    rw [r.length, hl]
  · obtain ⟨S', u, hd, r, hp⟩ := h
    obtain ⟨t, p, q⟩ := (d cdv A outer s H E (fctx S hr) u).ex
    refine ⟨t, p, q S' [] _ H _ ?_ (hp.bind.imp (fun y hy σ' H' own' x' _ => hy H' .non x'.nil_same rfl) fun e he σ' H' own' c d x' _ z => he H' c d x'.nil_same (exr_sub (hide_mono fun b hb => List.mem_append_left _ hb) z))⟩
    rw [h0, ← hl u, ← r.length]
    exact rs_start r hd
theorem FOk.of_eq {R : Type} [Rp R] {f f' : A → Res R} {k : Nat} (F : FOk P w K mg base x k (spOf K as f)) (h : ∀ u, f u = f' u) : FOk P w K mg base x k (spOf K as f') := by
  have e : f = f' := funext h
  subst e
  exact F
theorem FOk.mono {sp : Sp} {j k : Nat} (F : FOk P w K mg base x j sp) (h : j ≤ k) : FOk P w K mg base x k sp := by
  obtain ⟨⟨fd, ps, F1, F2⟩, h2, h3⟩ := F
  exact ⟨⟨fd, ps, F1.mono h, F2⟩, h2, h3⟩
end

/-! ### kinds by name -/
class Ty (T : Type) [Rp T] where
  ty : T → String
  ok : ∀ {K : PySem.W.Frag} {B : List Addr} {H : Hp} {v : V} {x : T}, rp K (hide B H) v x → TyX K H v (.type (ty x))
theorem tyx_tup {K : PySem.W.Frag} {H : Hp} {a : Addr} {vs : List V} (h : SqT K H a vs) : TyX K H (.ref a) (.type "tuple") := by
  rcases h with (h | ⟨o, h⟩) | ⟨o, its, n, h1, h2, _⟩
  · exact .base (.tup h)
  · exact .fTuple h
  · exact .kTuple h1 h2
theorem tyx_lst {K : PySem.W.Frag} {H : Hp} {a : Addr} {vs : List V} (h : SqL K H a vs) : TyX K H (.ref a) (.type "list") := by
  rcases h with (h | ⟨o, h⟩) | ⟨o, its, n, h1, h2, _⟩
  · exact .base (.lst h)
  · exact .base (.frz h)
  · exact .kList h1 h2
instance : Ty Int := ⟨fun _ => "int", fun h => by cases h; exact .base (.int _)⟩
instance : Ty Bool := ⟨fun _ => "bool", fun h => by cases h; exact .base (.bl _)⟩
instance : Ty Str := ⟨fun _ => "str", fun h => by cases h; exact .base (.str _)⟩
instance : Ty Unit := ⟨fun _ => "NoneType", fun h => by cases h; exact .base .non⟩
instance {T : Type} [Rp T] : Ty (List T) := ⟨fun _ => "list", fun h => by
  obtain ⟨a, vs, rfl, e1, _⟩ := h
  exact tyx_lst (.inl (.inl (hide_sub _ _ e1)))⟩
instance {T : Type} [Rp T] : Ty (Tup T) := ⟨fun _ => "tuple", fun h => by
  obtain ⟨a, vs, rfl, e1, _⟩ := h
  exact tyx_tup (SqT.same hide_sub e1)⟩
instance (priority := low) {T : Type} [Places T] : Ty T := ⟨fun _ => "tuple", fun h => by
  obtain ⟨a, vs, rfl, e1, _⟩ := h
  exact tyx_tup (SqT.same hide_sub e1)⟩
instance {T : Type} [Rp T] [Ty T] : Ty (Option T) := ⟨fun | none => "NoneType" | some y => Ty.ty y, fun {K B H v x} h => by
  cases x with
  | none => rw [show v = .non from h]; exact .base .non
  | some y => exact Ty.ok (B := B) h.1⟩
section
variable {S₁ S₂ B R T A U : Type} [Rp T] [Rp A] [Rp U] {X : Cx} {W : WX} {g : Bool} {ρe : Option (List Slot)} {ρ ρ' : List Slot} {e a b : Expr} {pos : Pos} {lv : Nat}
/-- isinstance(x, T) -/
theorem e_isi [Ty T] {m : Res T} {c : String} {n : Str} {p p2 : Pos} {f : T → Bool} (h : EG X W true ρ a m) (hm : X.mg "isinstance" = none) (hm2 : X.mg n = none) (hk : ∀ x : T, kitB (Ty.ty x) c = some (f x) := by intro _; decide +kernel) (hv : bootBuiltins n = some (.type c) := by decide +kernel)
    (hg : Gl X "isinstance" := by rfl) (hg2 : Gl X n := by rfl) (hn : n ≠ "__name__" := by decide) (hdb : (n == ("__debug__" : Str)) = false := by decide)
    (he : starEach [a, .Name n p2] X.env = (false, eval a X.env) :: starEach [.Name n p2] X.env := by rfl) (he2 : starEach [.Name n p2] X.env = (false, eval (.Name n p2) X.env) :: starEach [] X.env := by rfl) (hpl : (backTo pos (starEach [.Name n p2] X.env)).any (·.1) = false := by rfl) :
    EG X W g ρ (.Call (.Name "isinstance" p) [a, .Name n p2] [] pos) (m.bind fun x => .ok (f x)) := by
  obtain ⟨ta, pa, qa⟩ := h.ex
  have pn : PE X (.Name n p2) (tC (.ty c)) := pe_bltn hg2 hm2 hv rfl hn hdb
  refine ⟨_, pe_callB call_isi hg hm (by decide +kernel) (pa_cons pa (pa_cons pn pa_nil he2) he) (by decide) (by decide) he hpl, fun S own σ H Q rs hp => one_run (R' := fun v H2 => rIsi X.K [v, .ty c] H2 Q) qa rs hp fun x v H2 s r1 hq => ?_⟩
  exact ⟨v, .ty c, _, _, f x, rfl, .ty c, Ty.ok r1, kit_ty (hk x), hq H2 _ s rfl⟩
/-- x is True, x is False -/
theorem e_isB {m n : Res Bool} (h : EG X W true ρ a m) (h2 : EG X W true ρ b n) : CJ X W ρ .Is a b (m.bind fun x => n.bind fun y => .ok (decide (x = y))) :=
  e_cmpR (f := fun x y => .ok (decide (x = y))) op_isBl (nomark _) h h2 (fun _ _ H x y v u Q r1 r2 hq => by
    cases r1
    cases r2
    exact ⟨x, y, rfl, rfl, hq⟩)
theorem e_isnotB {m n : Res Bool} (h : EG X W true ρ a m) (h2 : EG X W true ρ b n) : CJ X W ρ .IsNot a b (m.bind fun x => n.bind fun y => .ok (!decide (x = y))) :=
  e_cmpR (f := fun x y => .ok (!decide (x = y))) op_notBl (nomark _) h h2 (fun _ _ H x y v u Q r1 r2 hq => by
    cases r1
    cases r2
    exact ⟨x, y, rfl, rfl, hq⟩)
theorem opt_non {K : PySem.W.Frag} {H : Hp} {v : V} {x : Option T} (h : rp K H v x) : decide (v = .non) = x.isNone := by
  cases x with
  | none => rw [show v = .non from h]; rfl
  | some y => exact decide_eq_false h.2
theorem e_isN {m : Res (Option T)} {j p2} (h : EG X W true ρ a m) : CJ X W ρ .Is a (.Constant .none j p2) (m.bind fun x => .ok x.isNone) := by
  obtain ⟨ta, pa, qa⟩ := h.ex
  refine ⟨_, _, _, op_isN, nomark _, pa, pe_non, fun S own σ H Q R rs hp hR => one_run (R' := fun v H2 => (V.non = .non ∧ R (.bl (decide (v = .non))) H2)) qa rs hp fun x v H2 s r1 hq => ⟨rfl, ?_⟩⟩
  rw [opt_non r1]
  exact hR _ _ (hq H2 s)
theorem e_isnotN {m : Res (Option T)} {j p2} (h : EG X W true ρ a m) : CJ X W ρ .IsNot a (.Constant .none j p2) (m.bind fun x => .ok (!x.isNone)) := by
  obtain ⟨ta, pa, qa⟩ := h.ex
  refine ⟨_, _, _, op_notN, nomark _, pa, pe_non, fun S own σ H Q R rs hp hR => one_run (R' := fun v H2 => (V.non = .non ∧ R (.bl (!decide (v = .non))) H2)) qa rs hp fun x v H2 s r1 hq => ⟨rfl, ?_⟩⟩
  rw [opt_non r1]
  exact hR _ _ (hq H2 s)
end

/-! ### == of data -/
class Dat (T : Type) [Rp T] where
  toD : T → PyData
  ok : T → Bool
  dp : ∀ {K : PySem.W.Frag} {H : Hp} {v : V} {x : T}, rp K H v x → Dp K H v (toD x)
  lay : ∀ x : T, ok x = true → (toD x).canLay0 = true
  dep : Nat
  depth : ∀ x : T, (toD x).depth ≤ dep
  dec : T → T → Bool
  eqv : ∀ x y : T, PyData.eqv (toD x) (toD y) = dec x y
  iff : ∀ x y : T, dec x y = true ↔ x = y
instance : Dat Int where
  toD := .int
  ok _ := true
  dp h := by cases h; exact .int _
  lay x _ := by simp [PyData.canLay0]
  dep := 0
  depth x := by simp [PyData.depth]
  dec x y := decide (x = y)
  eqv x y := by simp [PyData.eqv]; rfl
  iff x y := by simp
instance : Dat Bool where
  toD := .bool
  ok _ := true
  dp h := by cases h; exact .bl _
  lay x _ := by simp [PyData.canLay0]
  dep := 0
  depth x := by simp [PyData.depth]
  dec x y := decide (x = y)
  eqv x y := by simp [PyData.eqv]; rfl
  iff x y := by simp
instance : Dat Str where
  toD := .str
  ok x := PySem.PyData.strOk x
  dp h := by cases h; exact .str _
  lay x h := by simpa [PyData.canLay0] using h
  dep := 0
  depth x := by simp [PyData.depth]
  dec x y := decide (x = y)
  eqv x y := by simp [PyData.eqv]; rfl
  iff x y := by simp
section
variable {T : Type} [Rp T] [Dat T]
theorem dpAll_of {K : PySem.W.Frag} {H : Hp} : ∀ {vs : List V} {xs : List T}, RpAll K H vs xs → DpAll K H vs (xs.map Dat.toD)
  | _, _, .nil => .nil
  | _, _, .cons r t => .cons (Dat.dp r) (dpAll_of t)
theorem layAll_of : ∀ xs : List T, xs.all Dat.ok = true → PyData.canLayAll0 (xs.map Dat.toD) = true
  | [], _ => by simp [PyData.canLayAll0]
  | x :: xs, h => by
    rw [List.all_cons, Bool.and_eq_true] at h
    simp only [List.map_cons, PyData.canLayAll0, Dat.lay x h.1, layAll_of xs h.2, Bool.and_self]
theorem depAll_of : ∀ xs : List T, PyData.depthAll (xs.map Dat.toD) ≤ Dat.dep T
  | [] => by simp [PyData.depthAll]
  | x :: xs => by
    have h1 := depAll_of xs
    have h2 := Dat.depth x
    simp only [List.map_cons, PyData.depthAll]
    omega
def decAll : List T → List T → Bool
  | [], [] => true
  | x :: xs, y :: ys => Dat.dec x y && decAll xs ys
  | _, _ => false
theorem eqvAll_of : ∀ xs ys : List T, PyData.eqvAll (xs.map Dat.toD) (ys.map Dat.toD) = decAll xs ys
  | [], [] => by simp [PyData.eqvAll, decAll]
  | [], _ :: _ => by simp [PyData.eqvAll, decAll]
  | _ :: _, [] => by simp [PyData.eqvAll, decAll]
  | x :: xs, y :: ys => by simp only [List.map_cons, PyData.eqvAll, decAll, Dat.eqv, eqvAll_of xs ys]
theorem decAll_iff : ∀ xs ys : List T, decAll xs ys = true ↔ xs = ys
  | [], [] => by simp [decAll]
  | [], _ :: _ => by simp [decAll]
  | _ :: _, [] => by simp [decAll]
  | x :: xs, y :: ys => by
    rw [decAll, Bool.and_eq_true, Dat.iff, decAll_iff xs ys, List.cons.injEq]
end
instance {T : Type} [Rp T] [Dat T] : Dat (List T) where
  toD xs := .list (xs.map Dat.toD)
  ok xs := xs.all Dat.ok
  dp h := by
    obtain ⟨a, vs, rfl, e1, e2⟩ := h
    exact .lst (.inl (.inl e1)) (dpAll_of e2)
  lay xs h := by simp only [PyData.canLay0]; exact layAll_of xs h
  dep := Dat.dep T + 1
  depth xs := by
    have := depAll_of xs
    simp only [PyData.depth]
    omega
  dec := decAll
  eqv xs ys := by simp only [PyData.eqv]; exact eqvAll_of xs ys
  iff := decAll_iff
instance {T : Type} [Rp T] [Dat T] : Dat (Tup T) where
  toD xs := .tuple (xs.l.map Dat.toD)
  ok xs := xs.l.all Dat.ok
  dp h := by
    obtain ⟨a, vs, rfl, e1, e2⟩ := h
    exact .tup e1 (dpAll_of e2)
  lay xs h := by simp only [PyData.canLay0]; exact layAll_of xs.l h
  dep := Dat.dep T + 1
  depth xs := by
    have := depAll_of xs.l
    simp only [PyData.depth]
    omega
  dec xs ys := decAll xs.l ys.l
  eqv xs ys := by simp only [PyData.eqv]; exact eqvAll_of xs.l ys.l
  iff xs ys := by
    rw [decAll_iff]
    constructor
    · intro h; cases xs; cases ys; simp_all
    · intro h; rw [h]
instance {A B : Type} [Rp A] [Rp B] [Dat A] [Dat B] : Dat (A × B) where
  toD p := .tuple [Dat.toD p.1, Dat.toD p.2]
  ok p := Dat.ok p.1 && Dat.ok p.2
  dp {K H v x} h := by
    obtain ⟨a, vs, rfl, e1, e2⟩ := h
    obtain ⟨x1, x2⟩ := x
    cases e2 with
    | cons r1 e2 =>
      cases e2 with
      | cons r2 e2 =>
        cases e2
        exact .tup e1 (.cons (Dat.dp r1) (.cons (Dat.dp r2) .nil))
  lay p h := by
    rw [Bool.and_eq_true] at h
    simp only [PyData.canLay0, PyData.canLayAll0, Dat.lay p.1 h.1, Dat.lay p.2 h.2, Bool.and_self]
  dep := max (Dat.dep A) (Dat.dep B) + 1
  depth p := by
    have h1 := Dat.depth p.1
    have h2 := Dat.depth p.2
    simp only [PyData.depth, PyData.depthAll]
    omega
  dec p q := Dat.dec p.1 q.1 && Dat.dec p.2 q.2
  eqv p q := by simp only [PyData.eqv, PyData.eqvAll, Dat.eqv, Bool.and_true]
  iff p q := by
    rw [Bool.and_eq_true, Dat.iff, Dat.iff]
    constructor
    · rintro ⟨h1, h2⟩; exact Prod.ext h1 h2
    · intro h; rw [h]; exact ⟨rfl, rfl⟩
/-- data without texts -/
class DatT (T : Type) [Rp T] [Dat T] : Prop where
  ok : ∀ x : T, Dat.ok x = true
instance : DatT Int := ⟨fun _ => rfl⟩
instance : DatT Bool := ⟨fun _ => rfl⟩
instance {T : Type} [Rp T] [Dat T] [DatT T] : DatT (List T) := ⟨fun xs => List.all_eq_true.mpr fun x _ => DatT.ok x⟩
instance {T : Type} [Rp T] [Dat T] [DatT T] : DatT (Tup T) := ⟨fun xs => List.all_eq_true.mpr fun x _ => DatT.ok x⟩
instance {A B : Type} [Rp A] [Rp B] [Dat A] [Dat B] [DatT A] [DatT B] : DatT (A × B) := ⟨fun p => by
  show (Dat.ok p.1 && Dat.ok p.2) = true
  rw [DatT.ok p.1, DatT.ok p.2]; rfl⟩
theorem dat_shaped {T : Type} [Rp T] [Dat T] (hd : Dat.dep T ≤ 64) (x : T) (h : Dat.ok x = true) : SeqAt.shaped (Dat.toD x) = true := by
  show ((Dat.toD x).canLay0 && decide ((Dat.toD x).depth ≤ 64)) = true
  rw [Dat.lay x h, Bool.true_and]
  exact decide_eq_true (Nat.le_trans (Dat.depth x) hd)
section
variable {T : Type} [Rp T] [Dat T] {X : Cx} {W : WX} {g : Bool} {ρ : List Slot} {a b : Expr} {pos : Pos} {lv : Nat}
def eqD (x y : T) : Res Bool := guardR (Dat.ok x && Dat.ok y) (.ok (Dat.dec x y))
theorem e_eqd {m n : Res T} (C : CtxOk X W lv) (h : EG X W true ρ a m) (h2 : EG X W true ρ b n) (hd : Dat.dep T ≤ 64 := by decide) : CJ X W ρ .Eq a b (m.bind fun x => n.bind fun y => eqD x y) :=
  e_cmpR (f := eqD) (op_eqD C.room.units) (nomark _) h h2 (fun _ _ H x y v u Q r1 r2 hq => by
    obtain ⟨h1, hq⟩ := hq.guard
    rw [Bool.and_eq_true] at h1
    refine ⟨_, _, dp_same hide_sub (Dat.dp r1), dp_same hide_sub (Dat.dp r2), dat_shaped hd x h1.1, dat_shaped hd y h1.2, ?_⟩
    rw [Dat.eqv]
    exact hq)
theorem e_ned {m n : Res T} (C : CtxOk X W lv) (h : EG X W true ρ a m) (h2 : EG X W true ρ b n) (hd : Dat.dep T ≤ 64 := by decide) : CJ X W ρ .NotEq a b (m.bind fun x => n.bind fun y => (eqD x y).bind fun k => .ok (!k)) :=
  e_cmpR (f := fun x y => (eqD x y).bind fun k => .ok (!k)) (op_neD C.room.units) (nomark _) h h2 (fun _ _ H x y v u Q r1 r2 hq => by
    obtain ⟨h1, hq⟩ := hq.bind.guard
    rw [Bool.and_eq_true] at h1
    refine ⟨_, _, dp_same hide_sub (Dat.dp r1), dp_same hide_sub (Dat.dp r2), dat_shaped hd x h1.1, dat_shaped hd y h1.2, ?_⟩
    rw [Dat.eqv]
    exact hq)
theorem eqD_T [DatT T] (x y : T) : eqD x y = .ok (Dat.dec x y) := by
  unfold eqD
  rw [DatT.ok x, DatT.ok y]
  rfl
end
end Py

set_option Elab.async false
set_option linter.all false
set_option maxRecDepth 100000
set_option maxHeartbeats 1000000
/-! Py, part H: rules whose parts are values. -/
namespace Py
open PySem PySem.Spec L2
open Rp (rp)
section
variable {X : Cx} {W : WX} {g : Bool} {ρ : List Slot} {T A B C R : Type} [Rp T] [Rp A] [Rp B] [Rp C] [Rp R] {a b e : Expr} {pos p : Pos} {lv : Nat}
theorem LG.of_eq {m m' : Res (List T)} (h : LG X W ρ e m) (z : m = m') : LG X W ρ e m' := z ▸ h
theorem e_ixp {xs : List T} {i : Int} (ha : LG X W ρ a (.ok xs)) (hb : EG X W true ρ b (.ok i)) (hs : PlainIx b := by exact fun _ _ => rfl) : EG X W g ρ (.Subscript a b pos) (idxM xs i) := e_ix ha hb hs
theorem e_ixtp {xs : Tup T} {i : Int} (ha : EG X W g ρ a (.ok xs)) (hb : EG X W true ρ b (.ok i)) (hs : PlainIx b := by exact fun _ _ => rfl) : EG X W g ρ (.Subscript a b pos) (idxM xs.l i) := e_ixt ha hb hs
theorem e_ixscrp {z : Scr} {i : Int} (ha : EG X W true ρ a (.ok z)) (hb : EG X W true ρ b (.ok i)) (hs : PlainIx b := by exact fun _ _ => rfl) : EG X W g ρ (.Subscript a b pos) (idxM z.ns i) := e_ixscr ha hb hs
theorem e_plp {A : Type} [Places A] {j : Nat} {f : A → T} {x : A} {c} {p2 : Pos} (ha : EG X W g ρ a (.ok x)) (hf : ∀ x, (Places.av x)[j]? = some (av (f x)) := by intro _; rfl) : EG X W g ρ (.Subscript a (.Constant (.int (j : Int)) c p2) pos) (.ok (f x)) := e_pl ha hf
theorem o_somep {i : Int} (h : EG X W true ρ e (.ok i)) : OG X W ρ (some e) (.ok (some i)) := o_some h
theorem f_slicep {xs : List T} {l h : Option Int} {lo hi : Option Expr} {p2 : Pos} (ha : LG X W ρ e (.ok xs)) (hl : OG X W ρ lo (.ok l)) (hh : OG X W ρ hi (.ok h)) : FG X W ρ (.Subscript e (.Slice lo hi none p2) pos) (.ok (cut xs l h)) := f_slice ha hl hh
theorem e_lenl {xs : List T} (ha : LG X W ρ a (.ok xs)) (hm : X.mg "len" = none) (hg : Gl X "len" := by rfl)
    (he : starEach [a] X.env = (false, eval a X.env) :: starEach [] X.env := by rfl) (hpl : (backTo pos (starEach [] X.env)).any (·.1) = false := by rfl) : EG X W g ρ (.Call (.Name "len" p) [a] [] pos) (.ok (xs.length : Int)) := by
  obtain ⟨ta, pa, qa⟩ := ha.ex
  refine ⟨_, pe_callB call_len hg hm (by decide +kernel) (pa_cons pa pa_nil he) (by decide) (by decide) he hpl, fun S own σ H Q rs h => qa S own σ H _ rs fun H' a vs s e1 e2 => ?_⟩
  exact ⟨.ref a, xs.length, rfl, .inl ⟨vs, .inl (.inl e1), e2.length.symm⟩, h H' _ s rfl⟩
theorem e_lenp [Len A] {x : A} (ha : EG X W true ρ a (.ok x)) (hm : X.mg "len" = none) (hg : Gl X "len" := by rfl)
    (he : starEach [a] X.env = (false, eval a X.env) :: starEach [] X.env := by rfl) (hpl : (backTo pos (starEach [] X.env)).any (·.1) = false := by rfl) : EG X W g ρ (.Call (.Name "len" p) [a] [] pos) (Len.len x) := e_len ha hm hg he hpl
theorem e_lent {x : Tup T} (ha : EG X W true ρ a (.ok x)) (hm : X.mg "len" = none) (hg : Gl X "len" := by rfl)
    (he : starEach [a] X.env = (false, eval a X.env) :: starEach [] X.env := by rfl) (hpl : (backTo pos (starEach [] X.env)).any (·.1) = false := by rfl) : EG X W g ρ (.Call (.Name "len" p) [a] [] pos) (.ok (x.l.length : Int)) := e_len ha hm hg he hpl
theorem e_lenscr {x : Scr} (ha : EG X W true ρ a (.ok x)) (hm : X.mg "len" = none) (hg : Gl X "len" := by rfl)
    (he : starEach [a] X.env = (false, eval a X.env) :: starEach [] X.env := by rfl) (hpl : (backTo pos (starEach [] X.env)).any (·.1) = false := by rfl) : EG X W g ρ (.Call (.Name "len" p) [a] [] pos) (.ok (x.ns.length : Int)) := e_len ha hm hg he hpl
theorem e_int1p {x : Int} (ha : EG X W true ρ a (.ok x)) (hm : X.mg "int" = none) (hg : Gl X "int" := by rfl)
    (he : starEach [a] X.env = (false, eval a X.env) :: starEach [] X.env := by rfl) (hpl : (backTo pos (starEach [] X.env)).any (·.1) = false := by rfl) : EG X W g ρ (.Call (.Name "int" p) [a] [] pos) (.ok x) := e_int1 ha hm hg he hpl
theorem e_int1m {m : Res Int} (ha : EG X W true ρ a m) (hm : X.mg "int" = none) (hg : Gl X "int" := by rfl)
    (he : starEach [a] X.env = (false, eval a X.env) :: starEach [] X.env := by rfl) (hpl : (backTo pos (starEach [] X.env)).any (·.1) = false := by rfl) : EG X W g ρ (.Call (.Name "int" p) [a] [] pos) m := (e_int1 ha hm hg he hpl).of_eq (by cases m <;> rfl)
theorem e_absp {x : Int} (ha : EG X W true ρ a (.ok x)) (hm : X.mg "abs" = none) (hg : Gl X "abs" := by rfl)
    (he : starEach [a] X.env = (false, eval a X.env) :: starEach [] X.env := by rfl) (hpl : (backTo pos (starEach [] X.env)).any (·.1) = false := by rfl) : EG X W g ρ (.Call (.Name "abs" p) [a] [] pos) (.ok (x.natAbs : Int)) := e_abs ha hm hg he hpl
theorem e_sump {xs : List Int} (hc : X.calm = true) (ha : LG X W ρ a (.ok xs)) (hm : X.mg "sum" = none) (hg : Gl X "sum" := by rfl)
    (he : starEach [a] X.env = (false, eval a X.env) :: starEach [] X.env := by rfl) (hpl : (backTo pos (starEach [] X.env)).any (·.1) = false := by rfl) : EG X W g ρ (.Call (.Name "sum" p) [a] [] pos) (.ok xs.sum) := e_sum hc ha hm hg he hpl
theorem e_max2p {x y : Int} (hc : X.calm = true) (ha : EG X W true ρ a (.ok x)) (hb : EG X W true ρ b (.ok y)) (hm : X.mg "max" = none) (hg : Gl X "max" := by rfl)
    (he : starEach [a, b] X.env = (false, eval a X.env) :: starEach [b] X.env := by rfl) (he2 : starEach [b] X.env = (false, eval b X.env) :: starEach [] X.env := by rfl) (hpl : (backTo pos (starEach [b] X.env)).any (·.1) = false := by rfl) :
    EG X W g ρ (.Call (.Name "max" p) [a, b] [] pos) (.ok (if y > x then y else x)) := e_max2 hc ha hb hm hg he he2 hpl
theorem e_min2p {x y : Int} (hc : X.calm = true) (ha : EG X W true ρ a (.ok x)) (hb : EG X W true ρ b (.ok y)) (hm : X.mg "min" = none) (hg : Gl X "min" := by rfl)
    (he : starEach [a, b] X.env = (false, eval a X.env) :: starEach [b] X.env := by rfl) (he2 : starEach [b] X.env = (false, eval b X.env) :: starEach [] X.env := by rfl) (hpl : (backTo pos (starEach [b] X.env)).any (·.1) = false := by rfl) :
    EG X W g ρ (.Call (.Name "min" p) [a, b] [] pos) (.ok (if y < x then y else x)) := e_min2 hc ha hb hm hg he he2 hpl
theorem e_gcdp {x : Str} {u v : Int} (ha : EG X W true ρ a (.ok u)) (hb : EG X W true ρ b (.ok v)) (hm : X.mg x = some (.builtin "math.gcd")) (hg : Gl X x := by rfl) (hdb : (x == ("__debug__" : Str)) = false := by decide)
    (he : starEach [a, b] X.env = (false, eval a X.env) :: starEach [b] X.env := by rfl) (he2 : starEach [b] X.env = (false, eval b X.env) :: starEach [] X.env := by rfl) (hpl : (backTo pos (starEach [b] X.env)).any (·.1) = false := by rfl) :
    EG X W g ρ (.Call (.Name x p) [a, b] [] pos) (.ok ((Nat.gcd u.natAbs v.natAbs : Nat) : Int)) := e_gcd ha hb hm hg hdb he he2 hpl
theorem f_listofp {xs : List T} (ha : LG X W ρ a (.ok xs)) (hm : X.mg "list" = none) (hg : Gl X "list" := by rfl)
    (he : starEach [a] X.env = (false, eval a X.env) :: starEach [] X.env := by rfl) (hpl : (backTo pos (starEach [] X.env)).any (·.1) = false := by rfl) : FG X W ρ (.Call (.Name "list" p) [a] [] pos) (.ok xs) := f_listof ha hm hg he hpl
theorem f_listoftp {xs : Tup T} (ha : EG X W true ρ a (.ok xs)) (hm : X.mg "list" = none) (hg : Gl X "list" := by rfl)
    (he : starEach [a] X.env = (false, eval a X.env) :: starEach [] X.env := by rfl) (hpl : (backTo pos (starEach [] X.env)).any (·.1) = false := by rfl) : FG X W ρ (.Call (.Name "list" p) [a] [] pos) (.ok xs.l) := f_listoft ha hm hg he hpl
theorem e_tupofp {xs : List T} (ha : LG X W ρ a (.ok xs)) (hm : X.mg "tuple" = none) (hg : Gl X "tuple" := by rfl)
    (he : starEach [a] X.env = (false, eval a X.env) :: starEach [] X.env := by rfl) (hpl : (backTo pos (starEach [] X.env)).any (·.1) = false := by rfl) : EG X W g ρ (.Call (.Name "tuple" p) [a] [] pos) (.ok (⟨xs⟩ : Tup T)) := e_tupof ha hm hg he hpl
def catM {α : Type} (xs ys : List α) : Res (List α) := guardR (decide (xs.length + ys.length ≤ sizeLine)) (.ok (xs ++ ys))
theorem f_catp {xs ys : List T} (ha : LG X W ρ a (.ok xs)) (hb : LG X W ρ b (.ok ys)) : FG X W ρ (.BinOp a .Add b pos) (catM xs ys) := f_cat ha hb
theorem f_catm {ma mb : Res (List T)} (ha : LG X W ρ a ma) (hb : LG X W ρ b mb) : FG X W ρ (.BinOp a .Add b pos) (ma.bind fun xs => mb.bind fun ys => catM xs ys) := f_cat ha hb
theorem f_repp {xs : List T} {k : Int} (ha : LG X W ρ a (.ok xs)) (hb : EG X W true ρ b (.ok k)) : FG X W ρ (.BinOp a .Mult b pos) (repM xs k) := f_rep ha hb
theorem e_isip [Ty T] {x : T} {c : String} {n : Str} {p2 : Pos} {f : T → Bool} (h : EG X W true ρ a (.ok x)) (hm : X.mg "isinstance" = none) (hm2 : X.mg n = none) (hk : ∀ x : T, kitB (Ty.ty x) c = some (f x) := by intro _; decide +kernel) (hv : bootBuiltins n = some (.type c) := by decide +kernel)
    (hg : Gl X "isinstance" := by rfl) (hg2 : Gl X n := by rfl) (hn : n ≠ "__name__" := by decide) (hdb : (n == ("__debug__" : Str)) = false := by decide)
    (he : starEach [a, .Name n p2] X.env = (false, eval a X.env) :: starEach [.Name n p2] X.env := by rfl) (he2 : starEach [.Name n p2] X.env = (false, eval (.Name n p2) X.env) :: starEach [] X.env := by rfl) (hpl : (backTo pos (starEach [.Name n p2] X.env)).any (·.1) = false := by rfl) :
    EG X W g ρ (.Call (.Name "isinstance" p) [a, .Name n p2] [] pos) (.ok (f x)) := e_isi h hm hm2 hk hv hg hg2 hn hdb he he2 hpl
theorem e_isBp {x y : Bool} (h : EG X W true ρ a (.ok x)) (h2 : EG X W true ρ b (.ok y)) : CJ X W ρ .Is a b (.ok (decide (x = y))) := e_isB h h2
theorem e_isnotBp {x y : Bool} (h : EG X W true ρ a (.ok x)) (h2 : EG X W true ρ b (.ok y)) : CJ X W ρ .IsNot a b (.ok (!decide (x = y))) := e_isnotB h h2
theorem e_isNp {x : Option T} {j p2} (h : EG X W true ρ a (.ok x)) : CJ X W ρ .Is a (.Constant .none j p2) (.ok x.isNone) := e_isN h
theorem e_isnotNp {x : Option T} {j p2} (h : EG X W true ρ a (.ok x)) : CJ X W ρ .IsNot a (.Constant .none j p2) (.ok (!x.isNone)) := e_isnotN h
theorem e_eqdp [Dat T] {x y : T} (C : CtxOk X W lv) (h : EG X W true ρ a (.ok x)) (h2 : EG X W true ρ b (.ok y)) (hd : Dat.dep T ≤ 64 := by decide) : CJ X W ρ .Eq a b (eqD x y) := e_eqd C h h2 hd
theorem e_eqdT [Dat T] [DatT T] {x y : T} (C : CtxOk X W lv) (h : EG X W true ρ a (.ok x)) (h2 : EG X W true ρ b (.ok y)) (hd : Dat.dep T ≤ 64 := by decide) : CJ X W ρ .Eq a b (.ok (Dat.dec x y)) := (e_eqd C h h2 hd).of_eq (eqD_T x y)
theorem e_nedT [Dat T] [DatT T] {x y : T} (C : CtxOk X W lv) (h : EG X W true ρ a (.ok x)) (h2 : EG X W true ρ b (.ok y)) (hd : Dat.dep T ≤ 64 := by decide) : CJ X W ρ .NotEq a b (.ok (!Dat.dec x y)) := (e_ned C h h2 hd).of_eq (show (eqD x y).bind _ = _ by rw [eqD_T]; rfl)
theorem e_eqdm [Dat T] [DatT T] {m n : Res T} (C : CtxOk X W lv) (h : EG X W true ρ a m) (h2 : EG X W true ρ b n) (hd : Dat.dep T ≤ 64 := by decide) : CJ X W ρ .Eq a b (m.bind fun x => n.bind fun y => .ok (Dat.dec x y)) := (e_eqd C h h2 hd).of_eq (by
  congr 1; funext x; congr 1; funext y; exact eqD_T x y)
theorem e_nedm [Dat T] [DatT T] {m n : Res T} (C : CtxOk X W lv) (h : EG X W true ρ a m) (h2 : EG X W true ρ b n) (hd : Dat.dep T ≤ 64 := by decide) : CJ X W ρ .NotEq a b (m.bind fun x => n.bind fun y => .ok (!Dat.dec x y)) := (e_ned C h h2 hd).of_eq (by
  congr 1; funext x; congr 1; funext y; rw [eqD_T]; rfl)
end
section
variable {X : Cx} {W : WX} {g : Bool} {ρ : List Slot} {T A : Type} [Rp T] [Rp A] {a e tg : Expr} {pos p : Pos} {lv : Nat}
theorem i_range1p {j : Int} (h : EG X W true ρ a (.ok j)) (hm : X.mg "range" = none) (hg : Gl X "range" := by rfl) (hs : starEach [a] X.env = [(false, eval a X.env)] := by rfl) (he : starEach (a :: []) X.env = (false, eval a X.env) :: starEach [] X.env := by rfl) :
    IJ X W ρ tg (.Call (.Name "range" p) [a] [] pos) (guardR (inRange j) (.ok (rng 0 j))) := i_range1 h hm hg hs he
theorem i_range2p {c : Expr} {i j : Int} (h : EG X W true ρ a (.ok i)) (h2 : EG X W true ρ c (.ok j)) (hm : X.mg "range" = none) (hg : Gl X "range" := by rfl) (hs : starEach [a, c] X.env = [(false, eval a X.env), (false, eval c X.env)] := by rfl) (hs2 : starEach [c] X.env = [(false, eval c X.env)] := by rfl)
    (he : starEach (a :: [c]) X.env = (false, eval a X.env) :: starEach [c] X.env := by rfl) (he2 : starEach (c :: []) X.env = (false, eval c X.env) :: starEach [] X.env := by rfl) :
    IJ X W ρ tg (.Call (.Name "range" p) [a, c] [] pos) (guardR (inRange i && inRange j) (.ok (rng i j))) := i_range2 h h2 hm hg hs hs2 he he2
theorem i_enump {xs : List T} {elts : List Expr} {kk : Nat} {tpos : Pos} (h : EG X W true ρ a (.ok xs)) (hm : X.mg "enumerate" = none) (hg : Gl X "enumerate" := by rfl) (hs : starEach [a] X.env = [(false, eval a X.env)] := by rfl) (he : starEach (a :: []) X.env = (false, eval a X.env) :: starEach [] X.env := by rfl) :
    IJ X W ρ (.Tuple elts kk tpos) (.Call (.Name "enumerate" p) [a] [] pos) (.ok (enumL xs)) := i_enum h hm hg hs he
theorem i_zipp {c : Expr} {xs : List T} {ys : List A} {elts : List Expr} {kk : Nat} {tpos : Pos} (h : EG X W true ρ a (.ok xs)) (h2 : EG X W true ρ c (.ok ys)) (hm : X.mg "zip" = none) (hg : Gl X "zip" := by rfl)
    (he : starEach (a :: [c]) X.env = (false, eval a X.env) :: starEach [c] X.env := by rfl) (he2 : starEach (c :: []) X.env = (false, eval c X.env) :: starEach [] X.env := by rfl) (hpl : (backTo pos (starEach [c] X.env)).any (·.1) = false := by rfl) :
    IJ X W ρ (.Tuple elts kk tpos) (.Call (.Name "zip" p) [a, c] [] pos) (.ok (xs.zip ys)) := i_zip h h2 hm hg he he2 hpl
theorem i_tupp {xs : Tup T} (h : EG X W true ρ e (.ok xs)) : IJ X W ρ tg e (.ok xs.l) := i_tup h
theorem i_strp {z : Str} (h : EG X W true ρ e (.ok z)) : IJ X W ρ tg e (.ok (signs z)) := i_str h
end
end Py

set_option Elab.async false
set_option linter.all false
set_option maxRecDepth 100000
set_option maxHeartbeats 1000000
/-! Py, part I: shapes that the generator prints. -/
namespace Py
open PySem PySem.Spec L2
open Rp (rp)
section
variable {S₁ S₂ B R T A : Type} [Rp T] [Rp A] {X : Cx} {W : WX} {g : Bool} {ρe : Option (List Slot)} {ρ ρ' : List Slot} {st : Stmt} {rest sts sa sb : List Stmt} {n n1 : S₁ → List Slot} {n2 : S₂ → List Slot} {b : B → List Slot} {Z : Rt R} {e a c : Expr} {pos : Pos} {lv : Nat}
theorem b_at {m : Res S₁} (ρ' : List Slot) (h : SN X W ρe ρ' sts n m) (e : ρ = ρ' := by rfl) : SN X W ρe ρ sts n m := e ▸ h
theorem r_at {m : Res R} (ρ' : List Slot) (h : SR X W ρe ρ' sts Z m) (e : ρ = ρ' := by rfl) : SR X W ρe ρ sts Z m := e ▸ h
theorem c_at {m : Res (Ctl S₁ B R)} (ρ' : List Slot) (h : SC X W ρe ρ' sts n b Z m) (e : ρ = ρ' := by rfl) : SC X W ρe ρ sts n b Z m := e ▸ h
theorem e_at {m : Res T} (ρ' : List Slot) (h : EG X W g ρ' e m) (z : ρ = ρ' := by rfl) : EG X W g ρ e m := z ▸ h
theorem t_at {m : Res Bool} (ρ' : List Slot) (h : TJ X W ρ' e m) (z : ρ = ρ' := by rfl) : TJ X W ρ e m := z ▸ h
theorem n_ifp {p : Bool} {ma mb : Res S₁} (hc : TJ X W ρ c (.ok p)) (h1 : SN X W ρe ρ sa n ma) (h2 : SN X W ρe ρ sb n mb) (w : WkO ρ ρe := by trivial) : N1 X W ρe ρ (.If c sa sb pos) n (if p then ma else mb) := n_if hc h1 h2 w
theorem c_ifp {p : Bool} {ma mb : Res (Ctl S₁ B R)} (hc : TJ X W ρ c (.ok p)) (h1 : SC X W ρe ρ sa n b Z ma) (h2 : SC X W ρe ρ sb n b Z mb) (w : WkO ρ ρe := by trivial) : C1 X W ρe ρ (.If c sa sb pos) n b Z (if p then ma else mb) := c_if hc h1 h2 w
theorem r_ifp {p : Bool} {ma mb : Res R} (hc : TJ X W ρ c (.ok p)) (h1 : SR X W ρe ρ sa Z ma) (h2 : SR X W ρe ρ rest Z mb) (w : WkO ρ ρe := by trivial) : SR X W ρe ρ (.If c sa [] pos :: rest) Z (if p then ma else mb) := r_if hc h1 h2 w
theorem r_if2p {p : Bool} {ma mb : Res R} (hc : TJ X W ρ c (.ok p)) (h1 : SR X W ρe ρ sa Z ma) (h2 : SR X W ρe ρ sb Z mb) (w : WkO ρ ρe := by trivial) : SR X W ρe ρ (.If c sa sb pos :: rest) Z (if p then ma else mb) := r_if2 hc h1 h2 w
def liftC {S B R : Type} (m : Res (Ctl Empty B R)) : Res (Ctl S B R) := m.bind fun
  | .nx z => nomatch z
  | .rt r => .ok (.rt r)
  | .bk x => .ok (.bk x)
  | .ct x => .ok (.ct x)
def eb : Empty → List Slot := fun z => nomatch z
/-- if that jumps or returns on its yes, then the rest -/
theorem c_if1 {mc : Res Bool} {ma : Res (Ctl Empty B R)} {mb : Res (Ctl S₁ B R)} (hc : TJ X W ρ c mc) (h1 : SC X W ρe ρ sa eb b Z ma) (h2 : SC X W ρe ρ rest n b Z mb) (w : WkO ρ ρe := by trivial) : SC X W ρe ρ (.If c sa [] pos :: rest) n b Z (mc.bind fun k => if k then liftC ma else mb) := by
  obtain ⟨tc, pc, qc⟩ := hc.ex
  obtain ⟨ta, pa, qa⟩ := h1.ex
  obtain ⟨tb, pb, qb⟩ := h2.ex
  refine ⟨_, pss_cons (ps_if pc pa pss_nil) pb, fun S own σ H D rs h => if_run (c := c) qc rs w h fun k H' s hk => ?_⟩
  cases k with
  | true =>
    rw [if_pos rfl]
    refine qa S own σ H' _ (rs.mono s) ((show Post (ma.bind _) _ _ from hk).bind.imp (fun z hz => ?_) fun _ z => z.mono (Ext.of_same s))
    cases z with
    | nx z => exact nomatch z
    | rt r => exact RtP.mono hz (Ext.of_same s)
    | bk x => exact NxP.mono hz (Ext.of_same s)
    | ct x => exact NxP.mono hz (Ext.of_same s)
  | false => rw [if_neg Bool.false_ne_true]; exact qb S own σ H' D (rs.mono s) (Post.imp (show Post mb _ _ from hk) (fun _ z => CtlP.mono z (Ext.of_same s)) fun _ z => z.mono (Ext.of_same s))
theorem c_if1p {p : Bool} {ma : Res (Ctl Empty B R)} {mb : Res (Ctl S₁ B R)} (hc : TJ X W ρ c (.ok p)) (h1 : SC X W ρe ρ sa eb b Z ma) (h2 : SC X W ρe ρ rest n b Z mb) (w : WkO ρ ρe := by trivial) : SC X W ρe ρ (.If c sa [] pos :: rest) n b Z (if p then liftC ma else mb) := c_if1 hc h1 h2 w
/-- a return within a loop -/
theorem SR.cp {r : R} (h : SR X W ρe ρ sts Z (.ok r)) : SC X W ρe ρ sts n b Z (.ok (.rt r)) := SR.c h
theorem SN.cp {r : S₁} (h : SN X W ρe ρ sts n (.ok r)) : SC X W ρe ρ sts n b Z (.ok (.nx r)) := SN.c h
/-- a value that is known is put in at once -/
theorem r_consp {v : S₂} {m2 : Res R} (h1 : N1 X W ρe ρ st n2 (.ok v)) (h2 : SR X W ρe (n2 v) rest Z m2) : SR X W ρe ρ (st :: rest) Z m2 := by
  obtain ⟨t1, p1, q1⟩ := h1.ex
  obtain ⟨t2, p2, q2⟩ := h2.ex
  exact ⟨_, pss_cons p1 p2, fun S own σ H D rs h => q1 S own σ H _ rs fun σ1 H1 own1 x1 r1 => q2 S own1 σ1 H1 D r1 (Post.imp h (fun _ z => z.mono x1) fun _ z => z.mono x1)⟩
theorem b_consp {v : S₂} {m2 : Res S₁} (h1 : N1 X W ρe ρ st n2 (.ok v)) (h2 : SN X W ρe (n2 v) rest n m2) : SN X W ρe ρ (st :: rest) n m2 := by
  obtain ⟨t1, p1, q1⟩ := h1.ex
  obtain ⟨t2, p2, q2⟩ := h2.ex
  exact ⟨_, pss_cons p1 p2, fun S own σ H D rs h => q1 S own σ H _ rs fun σ1 H1 own1 x1 r1 => q2 S own1 σ1 H1 D r1 (Post.imp h (fun _ z => z.mono x1) fun _ z => z.mono x1)⟩
theorem c_consp {v : S₂} {m2 : Res (Ctl S₁ B R)} (h1 : N1 X W ρe ρ st n2 (.ok v)) (h2 : SC X W ρe (n2 v) rest n b Z m2) : SC X W ρe ρ (st :: rest) n b Z m2 := by
  obtain ⟨t1, p1, q1⟩ := h1.ex
  obtain ⟨t2, p2, q2⟩ := h2.ex
  exact ⟨_, pss_cons p1 p2, fun S own σ H D rs h => q1 S own σ H _ rs fun σ1 H1 own1 x1 r1 => q2 S own1 σ1 H1 D r1 (Post.imp h (fun _ z => CtlP.mono z x1) fun _ z => z.mono x1)⟩
/-! ### truth of lists -/
theorem t_list {m : Res (List T)} (h : LG X W ρ e m) (he : ∀ whole, isTrue e X.env whole = (do let v ← whole; standAt e.pos; holding [v] (truthy v)) := by intro _; rfl) : TJ X W ρ e (m.bind fun xs => .ok (!xs.isEmpty)) := by
  obtain ⟨t, p, q⟩ := h.ex
  refine ⟨_, pt_truth p he, fun S own σ H Q rs hp => q S own σ H _ rs (hp.bind.imp (fun xs hx H' a vs s e1 e2 => ⟨!xs.isEmpty, .inl ⟨vs, .inl (.inl e1), ?_⟩, hx H' s⟩) fun _ z => z)⟩
  have := e2.length
  cases vs <;> cases xs <;> simp at this <;> rfl
theorem t_listp {xs : List T} (h : LG X W ρ e (.ok xs)) (he : ∀ whole, isTrue e X.env whole = (do let v ← whole; standAt e.pos; holding [v] (truthy v)) := by intro _; rfl) : TJ X W ρ e (.ok (!xs.isEmpty)) := t_list h he
theorem t_tup {m : Res (Tup T)} (h : EG X W true ρ e m) (he : ∀ whole, isTrue e X.env whole = (do let v ← whole; standAt e.pos; holding [v] (truthy v)) := by intro _; rfl) : TJ X W ρ e (m.bind fun xs => .ok (!xs.l.isEmpty)) := by
  obtain ⟨t, p, q⟩ := h.ex
  refine ⟨_, pt_truth p he, fun S own σ H Q rs hp => q S own σ H _ rs (hp.bind.imp (fun xs hx H' v s r => ?_) fun _ z => z)⟩
  obtain ⟨a, vs, rfl, e1, e2⟩ := r
  refine ⟨!xs.l.isEmpty, .inr (.inl ⟨vs, SqT.same hide_sub e1, ?_⟩), hx H' s⟩
  have := e2.length
  cases vs <;> cases hh : xs.l <;> rw [hh] at this <;> simp at this <;> rfl
theorem e_eqdB [Dat T] [DatT T] {m n : Res T} (C : CtxOk X W lv) (h : EG X W false ρ a m) (h2 : EG X W false ρ e n) (hd : Dat.dep T ≤ 64 := by decide) : CJ X W ρ .Eq a e (m.bind fun x => n.bind fun y => .ok (Dat.dec x y)) := by
  refine (e_cmpR (f := eqD) (op_eqD C.room.units) (nomark _) h h2 (fun _ _ H x y v u Q r1 r2 hq => ?_)).of_eq (by congr 1; funext x; congr 1; funext y; exact eqD_T x y)
  rw [eqD_T] at hq
  refine ⟨_, _, dp_same hide_sub (Dat.dp r1), dp_same hide_sub (Dat.dp r2), dat_shaped hd x (DatT.ok x), dat_shaped hd y (DatT.ok y), ?_⟩
  rw [Dat.eqv]
  exact hq
theorem e_nedB [Dat T] [DatT T] {m n : Res T} (C : CtxOk X W lv) (h : EG X W false ρ a m) (h2 : EG X W false ρ e n) (hd : Dat.dep T ≤ 64 := by decide) : CJ X W ρ .NotEq a e (m.bind fun x => n.bind fun y => .ok (!Dat.dec x y)) := by
  refine (e_cmpR (f := fun x y => (eqD x y).bind fun k => .ok (!k)) (op_neD C.room.units) (nomark _) h h2 (fun _ _ H x y v u Q r1 r2 hq => ?_)).of_eq (by congr 1; funext x; congr 1; funext y; rw [eqD_T]; rfl)
  rw [eqD_T] at hq
  refine ⟨_, _, dp_same hide_sub (Dat.dp r1), dp_same hide_sub (Dat.dp r2), dat_shaped hd x (DatT.ok x), dat_shaped hd y (DatT.ok y), ?_⟩
  rw [Dat.eqv]
  exact hq
/-! ### the law's end -/
theorem law_sp {K : PySem.W.Frag} {f : Scr × Unit → Res Bool} {H : Hp} {a : Addr} {ns : List Int} (h : f (⟨ns⟩, ()) = .ok true) (hS : SqL K H a (ns.map V.int)) : spOf K (asC asN) f [.ref a] H (fun v _ => v = .bl true) fun _ _ _ => False := by
  refine ⟨[], (⟨ns⟩, ()), (fun _ z => nomatch z), .cons ⟨a, rfl, ?_⟩ .nil, ?_⟩
  · rw [hide_nil]; exact hS
  · rw [h]
    exact fun H' v s r => r
end
end Py

set_option Elab.async false
set_option linter.all false
set_option maxRecDepth 100000
set_option maxHeartbeats 1000000
/-! Py, part J: data of any kind; a def that calls itself. -/
namespace Py
open PySem PySem.Spec L2
open Rp (rp)

/-- a value of any kind, as data -/
structure PD where
  d : PyData
instance : Rp PD where
  rp K H v x := Dp K H v x.d
  mono s h := dp_same s h
def tyD : PyData → String
  | .none => "NoneType" | .bool _ => "bool" | .int _ => "int" | .str _ => "str" | .list _ => "list" | .tuple _ => "tuple" | .dict _ => "dict"
instance : Ty PD := ⟨fun x => tyD x.d, fun {K B H v x} h => by
  obtain ⟨d⟩ := x
  cases h with
  | non => exact .base .non
  | bl b => exact .base (.bl _)
  | int i => exact .base (.int _)
  | str x => exact .base (.str _)
  | lst h r => exact tyx_lst (hide_sub.seq h)
  | tup h r => exact tyx_tup (SqT.same hide_sub h)⟩
def isTup : PD → Bool | ⟨.tuple _⟩ => true | _ => false
def isLst : PD → Bool | ⟨.list _⟩ => true | _ => false
def isBl : PD → Bool | ⟨.bool _⟩ => true | _ => false
def isInt : PD → Bool | ⟨.int _⟩ => true | ⟨.bool _⟩ => true | _ => false
def isStr : PD → Bool | ⟨.str _⟩ => true | _ => false
theorem isTup_ok (x : PD) : kitB (Ty.ty x) "tuple" = some (isTup x) := by
  obtain ⟨d⟩ := x
  cases d <;> first | exact (by decide +kernel : kitB "NoneType" "tuple" = some false) | exact (by decide +kernel : kitB "bool" "tuple" = some false) | exact (by decide +kernel : kitB "int" "tuple" = some false) | exact (by decide +kernel : kitB "str" "tuple" = some false) | exact (by decide +kernel : kitB "list" "tuple" = some false) | exact (by decide +kernel : kitB "tuple" "tuple" = some true) | exact (by decide +kernel : kitB "dict" "tuple" = some false)
theorem isLst_ok (x : PD) : kitB (Ty.ty x) "list" = some (isLst x) := by
  obtain ⟨d⟩ := x
  cases d <;> first | exact (by decide +kernel : kitB "NoneType" "list" = some false) | exact (by decide +kernel : kitB "bool" "list" = some false) | exact (by decide +kernel : kitB "int" "list" = some false) | exact (by decide +kernel : kitB "str" "list" = some false) | exact (by decide +kernel : kitB "list" "list" = some true) | exact (by decide +kernel : kitB "tuple" "list" = some false) | exact (by decide +kernel : kitB "dict" "list" = some false)
theorem isBl_ok (x : PD) : kitB (Ty.ty x) "bool" = some (isBl x) := by
  obtain ⟨d⟩ := x
  cases d <;> first | exact (by decide +kernel : kitB "NoneType" "bool" = some false) | exact (by decide +kernel : kitB "bool" "bool" = some true) | exact (by decide +kernel : kitB "int" "bool" = some false) | exact (by decide +kernel : kitB "str" "bool" = some false) | exact (by decide +kernel : kitB "list" "bool" = some false) | exact (by decide +kernel : kitB "tuple" "bool" = some false) | exact (by decide +kernel : kitB "dict" "bool" = some false)
theorem isInt_ok (x : PD) : kitB (Ty.ty x) "int" = some (isInt x) := by
  obtain ⟨d⟩ := x
  cases d <;> first | exact (by decide +kernel : kitB "NoneType" "int" = some false) | exact (by decide +kernel : kitB "bool" "int" = some true) | exact (by decide +kernel : kitB "int" "int" = some true) | exact (by decide +kernel : kitB "str" "int" = some false) | exact (by decide +kernel : kitB "list" "int" = some false) | exact (by decide +kernel : kitB "tuple" "int" = some false) | exact (by decide +kernel : kitB "dict" "int" = some false)
theorem isStr_ok (x : PD) : kitB (Ty.ty x) "str" = some (isStr x) := by
  obtain ⟨d⟩ := x
  cases d <;> first | exact (by decide +kernel : kitB "NoneType" "str" = some false) | exact (by decide +kernel : kitB "bool" "str" = some false) | exact (by decide +kernel : kitB "int" "str" = some false) | exact (by decide +kernel : kitB "str" "str" = some true) | exact (by decide +kernel : kitB "list" "str" = some false) | exact (by decide +kernel : kitB "tuple" "str" = some false) | exact (by decide +kernel : kitB "dict" "str" = some false)
theorem dpAll_length {K : PySem.W.Frag} {H : Hp} : ∀ {vs : List V} {ds : List PyData}, DpAll K H vs ds → vs.length = ds.length
  | _, _, .nil => rfl
  | _, _, .cons _ r => by rw [List.length_cons, List.length_cons, dpAll_length r]
theorem dpAll_get {K : PySem.W.Frag} {H : Hp} : ∀ {vs : List V} {ds : List PyData} {i : Nat} {d : PyData}, DpAll K H vs ds → ds[i]? = some d → ∃ v, vs[i]? = some v ∧ Dp K H v d
  | _, _, 0, _, .cons r _, e => by cases e; exact ⟨_, rfl, r⟩
  | _, _, i + 1, _, .cons _ t, e => dpAll_get (i := i) t e
  | _, _, 0, _, .nil, e => by cases e
  | _, _, i + 1, _, .nil, e => by cases e
def lenD : PD → Res Int
  | ⟨.list xs⟩ => .ok (xs.length : Int)
  | ⟨.tuple xs⟩ => .ok (xs.length : Int)
  | _ => .bad
instance : Len PD where
  len := lenD
  ok {K B H v x Q} r h := by
    obtain ⟨d⟩ := x
    cases r with
    | lst r1 r2 => exact ⟨_, .inl ⟨_, hide_sub.seq r1, rfl⟩, by rw [dpAll_length r2]; exact h⟩
    | tup r1 r2 => exact ⟨_, .inr ⟨_, SqT.same hide_sub r1, rfl⟩, by rw [dpAll_length r2]; exact h⟩
    | _ => exact h.elim
def idxD (x : PD) (i : Int) : Res PD := match x with
  | ⟨.list xs⟩ => (idxM xs i).bind fun d => .ok ⟨d⟩
  | ⟨.tuple xs⟩ => (idxM xs i).bind fun d => .ok ⟨d⟩
  | _ => .bad
def asB (x : PD) : Res Bool := match x with | ⟨.bool b⟩ => .ok b | _ => .bad
def asI (x : PD) : Res Int := match x with | ⟨.int b⟩ => .ok b | _ => .bad
def asS (x : PD) : Res Str := match x with | ⟨.str b⟩ => .ok b | _ => .bad
def isNon : PD → Bool | ⟨.none⟩ => true | _ => false
def eqvD (x y : PD) : Res Bool := guardR (SeqAt.shaped x.d && SeqAt.shaped y.d) (.ok (PyData.eqv x.d y.d))
section
variable {X : Cx} {W : WX} {g : Bool} {ρ : List Slot} {T A : Type} [Rp T] [Rp A] {a b e : Expr} {pos : Pos} {lv : Nat}
theorem e_toD [Dat T] {m : Res T} (h : EG X W g ρ e m) : EG X W g ρ e (m.bind fun x => .ok (PD.mk (Dat.toD x))) := by
  obtain ⟨t, p, q⟩ := h.ex
  exact ⟨t, p, fun S own σ H Q rs hp => q S own σ H Q rs (hp.bind.imp (fun x hx H' v s r => hx H' v s (Dat.dp r)) fun _ z => z)⟩
theorem e_toDp [Dat T] {x : T} (h : EG X W g ρ e (.ok x)) : EG X W g ρ e (.ok (PD.mk (Dat.toD x))) := e_toD h
theorem idx_get {α β : Type} {xs : List α} {i : Int} {f : α → Res β} {Q : β → Prop} {E : Ex → Prop} (h : Post ((idxM xs i).bind f) Q E) : ∃ (j : Nat) (y : α), ixN xs.length i = some j ∧ xs[j]? = some y ∧ Post (f y) Q E := by
  unfold idxM atI at h
  cases ej : ixN xs.length i with
  | none => rw [ej] at h; exact h.elim
  | some j =>
    rw [ej] at h
    cases ey : xs[j]? with
    | none => rw [Option.bind_some, ey] at h; exact h.elim
    | some y => rw [Option.bind_some, ey] at h; exact ⟨j, y, rfl, ey, h⟩
theorem e_ixD {m : Res PD} {n : Res Int} (h : EG X W g ρ a m) (h2 : EG X W true ρ b n) (hs : PlainIx b := by exact fun _ _ => rfl) : EG X W g ρ (.Subscript a b pos) (m.bind fun x => n.bind fun i => idxD x i) := by
  obtain ⟨ta, pa, qa⟩ := h.ex
  obtain ⟨tb, pb, qb⟩ := h2.ex
  refine ⟨_, pe_ix ix_seq pa pb hs, fun S own σ H Q rs hP => two_run (R' := fun v u H2 => rIx X.K v u H2 Q) qa qb rs hP fun x i v u H2 s r1 r2 hp => ?_⟩
  obtain ⟨d⟩ := x
  cases r2
  cases r1 with
  | lst r1 r3 =>
    obtain ⟨j, y, ej, ey, hq⟩ := idx_get (show Post ((idxM _ i).bind fun d => .ok (PD.mk d)) _ _ from hp)
    obtain ⟨w, e3, r4⟩ := dpAll_get r3 ey
    refine .inl ⟨_, _, i, w, rfl, rfl, hide_sub.seq r1, ?_, hq H2 w s r4⟩
    unfold atI
    rw [dpAll_length r3, ej]
    exact e3
  | tup r1 r3 =>
    obtain ⟨j, y, ej, ey, hq⟩ := idx_get (show Post ((idxM _ i).bind fun d => .ok (PD.mk d)) _ _ from hp)
    obtain ⟨w, e3, r4⟩ := dpAll_get r3 ey
    refine .inr (.inl ⟨_, _, i, w, rfl, rfl, SqT.same hide_sub r1, ?_, hq H2 w s r4⟩)
    unfold atI
    rw [dpAll_length r3, ej]
    exact e3
  | _ => exact hp.elim
theorem e_ixDp {x : PD} {i : Int} (h : EG X W g ρ a (.ok x)) (h2 : EG X W true ρ b (.ok i)) (hs : PlainIx b := by exact fun _ _ => rfl) : EG X W g ρ (.Subscript a b pos) (idxD x i) := e_ixD h h2 hs
theorem e_asB {m : Res PD} (h : EG X W true ρ e m) : EG X W g ρ e (m.bind asB) := by
  obtain ⟨t, p, q⟩ := h.ex
  refine ⟨t, p, fun S own σ H Q rs hp => q S own σ H Q rs (hp.bind.imp (fun x hx H' v s r => ?_) fun _ z => z)⟩
  obtain ⟨d⟩ := x
  cases r with
  | bl b => exact hx H' _ s rfl
  | _ => exact hx.elim
theorem e_asBp {x : PD} (h : EG X W true ρ e (.ok x)) : EG X W g ρ e (asB x) := e_asB h
theorem e_asI {m : Res PD} (h : EG X W true ρ e m) : EG X W g ρ e (m.bind asI) := by
  obtain ⟨t, p, q⟩ := h.ex
  refine ⟨t, p, fun S own σ H Q rs hp => q S own σ H Q rs (hp.bind.imp (fun x hx H' v s r => ?_) fun _ z => z)⟩
  obtain ⟨d⟩ := x
  cases r with
  | int b => exact hx H' _ s rfl
  | _ => exact hx.elim
theorem e_asIp {x : PD} (h : EG X W true ρ e (.ok x)) : EG X W g ρ e (asI x) := e_asI h
theorem e_asS {m : Res PD} (h : EG X W true ρ e m) : EG X W g ρ e (m.bind asS) := by
  obtain ⟨t, p, q⟩ := h.ex
  refine ⟨t, p, fun S own σ H Q rs hp => q S own σ H Q rs (hp.bind.imp (fun x hx H' v s r => ?_) fun _ z => z)⟩
  obtain ⟨d⟩ := x
  cases r with
  | str b => exact hx H' _ s rfl
  | _ => exact hx.elim
theorem e_asSp {x : PD} (h : EG X W true ρ e (.ok x)) : EG X W g ρ e (asS x) := e_asS h
theorem dp_non {K : PySem.W.Frag} {H : Hp} {v : V} {x : PD} (h : Dp K H v x.d) : decide (v = .non) = isNon x := by
  obtain ⟨d⟩ := x
  cases h <;> rfl
theorem e_isND {m : Res PD} {j p2} (h : EG X W true ρ a m) : CJ X W ρ .Is a (.Constant .none j p2) (m.bind fun x => .ok (isNon x)) := by
  obtain ⟨ta, pa, qa⟩ := h.ex
  refine ⟨_, _, _, op_isN, nomark _, pa, pe_non, fun S own σ H Q R rs hp hR => one_run (R' := fun v H2 => (V.non = .non ∧ R (.bl (decide (v = .non))) H2)) qa rs hp fun x v H2 s r1 hq => ⟨rfl, ?_⟩⟩
  rw [dp_non r1]
  exact hR _ _ (hq H2 s)
theorem e_isNDp {x : PD} {j p2} (h : EG X W true ρ a (.ok x)) : CJ X W ρ .Is a (.Constant .none j p2) (.ok (isNon x)) := e_isND h
theorem e_isnotND {m : Res PD} {j p2} (h : EG X W true ρ a m) : CJ X W ρ .IsNot a (.Constant .none j p2) (m.bind fun x => .ok (!isNon x)) := by
  obtain ⟨ta, pa, qa⟩ := h.ex
  refine ⟨_, _, _, op_notN, nomark _, pa, pe_non, fun S own σ H Q R rs hp hR => one_run (R' := fun v H2 => (V.non = .non ∧ R (.bl (!decide (v = .non))) H2)) qa rs hp fun x v H2 s r1 hq => ⟨rfl, ?_⟩⟩
  rw [dp_non r1]
  exact hR _ _ (hq H2 s)
theorem e_isnotNDp {x : PD} {j p2} (h : EG X W true ρ a (.ok x)) : CJ X W ρ .IsNot a (.Constant .none j p2) (.ok (!isNon x)) := e_isnotND h
theorem e_eqvD {m n : Res PD} (C : CtxOk X W lv) (h : EG X W true ρ a m) (h2 : EG X W true ρ b n) : CJ X W ρ .Eq a b (m.bind fun x => n.bind fun y => eqvD x y) :=
  e_cmpR (f := eqvD) (op_eqD C.room.units) (nomark _) h h2 (fun _ _ H x y v u Q r1 r2 hq => by
    obtain ⟨h1, hq⟩ := hq.guard
    rw [Bool.and_eq_true] at h1
    exact ⟨_, _, dp_same hide_sub r1, dp_same hide_sub r2, h1.1, h1.2, hq⟩)
theorem e_eqvDp {x y : PD} (C : CtxOk X W lv) (h : EG X W true ρ a (.ok x)) (h2 : EG X W true ρ b (.ok y)) : CJ X W ρ .Eq a b (eqvD x y) := e_eqvD C h h2
end
section
variable {P : Program} {w : World} {K : PySem.W.Frag} {mg : Str → Option Value} {base : Heap} {x qual : Str} {params : Arguments} {body : List Stmt} {scope : Scope} {kws : List (Str × V)} {fd : FuncData} {ps : List Str} {k : Nat} {A : Type} {as : A → List AV}
/-- where nothing is promised -/
theorem fok_bad {R : Type} [Rp R] {f : A → Res R} (F : FunD K x qual params body scope [] kws (He.ga K x) fd) (hgl : mg x = some (.ref (He.ga K x))) (hb : Binds K fd ps []) (hf : ∀ u, f u = .bad) : FOk P w K mg base x k (spOf K as f) := by
  have no : ∀ vs H Q E, ¬ spOf K as f vs H Q E := fun vs H Q E h => by
    obtain ⟨S, u, _, _, hp⟩ := h
    rw [hf u] at hp
    exact hp
  exact ⟨⟨fd, ps, ⟨fun vs H Q E h => (no _ _ _ _ h).elim, fun A outer s H args us vs Q E _ _ _ _ h => (no _ _ _ _ h).elim⟩, hb⟩, F.kp, hgl⟩
end
end Py

set_option Elab.async false
set_option linter.all false
set_option maxRecDepth 100000
set_option maxHeartbeats 4000000
namespace Py
open PySem PySem.Spec PyProof.Rows L2
open Rp (rp)
/-! ### facts of the top: the layer's, and a boolean of one's own -/
def obsP (fb : PySem.W.Frag → Bool) (fa : List He.Fa) (fn : List He.DefD) (K : PySem.W.Frag) : He.AlD := (fb K && (He.obsD fa fn K).1, (He.obsD fa fn K).2)
def obsPG (n : Nat) (fb : PySem.W.Frag → Bool) (fa : List He.Fa) (fn : List He.DefD) (g : Addr → Option Obj) : He.AlD := obsP fb fa fn (He.frG g (He.asD g n))
structure SaysP (fb : PySem.W.Frag → Bool) (fa : List He.Fa) (fn : List He.DefD) (K : PySem.W.Frag) : Prop where
  eq : obsP fb fa fn K = He.valD fn
def hookP (n : Nat) (fb : PySem.W.Frag → Bool) (fa : List He.Fa) (fn : List He.DefD) : PySem.W.Hook where
  α := He.AlD
  obs := fun s => obsPG n fb fa fn s.heap.get?
  val := fun _ => He.valD fn
  says := fun _ h => ∃ K : PySem.W.Frag, K.In h ∧ SaysP fb fa fn K
  of := fun _ _ e => ⟨_, He.frG_in, ⟨e⟩⟩
  keeps := fun _ _ _ ⟨K, hK, c⟩ k => ⟨K, PySem.W.Frag.In.keeps hK k, c⟩
theorem obsPG_eq {n : Nat} {fb : PySem.W.Frag → Bool} {fa : List He.Fa} {fn : List He.DefD} {g : Addr → Option Obj} {s : Shared} (h : ∀ a, g a = s.heap.get? a) : obsPG n fb fa fn g = (hookP n fb fa fn).obs s := by
  have e : g = s.heap.get? := funext h
  rw [e] <;> rfl
theorem SaysP.own {fb : PySem.W.Frag → Bool} {fa : List He.Fa} {fn : List He.DefD} {K : PySem.W.Frag} (c : SaysP fb fa fn K) : fb K = true :=
  (He.ba (show (fb K && (He.obsD fa fn K).1) = true from congrArg (fun z : He.AlD => z.1) c.eq)).1
theorem SaysP.says {fb : PySem.W.Frag → Bool} {fa : List He.Fa} {fn : List He.DefD} {K : PySem.W.Frag} (c : SaysP fb fa fn K) : He.SaysD fa fn K := by
  have h1 := (He.ba (show (fb K && (He.obsD fa fn K).1) = true from congrArg (fun z : He.AlD => z.1) c.eq)).2
  have h2 : (obsP fb fa fn K).2 = (He.valD fn).2 := congrArg (fun z : He.AlD => z.2) c.eq
  exact Prod.ext h1 h2
/-- a name of the top that is bound to a builtin -/
def bltB (x : Str) (b : String) (K : PySem.W.Frag) : Bool := He.eqO (PySem.W.nsIn K mainGlobals x) (some (some (.builtin b)))
theorem bltB_ok {K : PySem.W.Frag} {h : Heap} {mg : Str → Option Value} (X : K.In h) (G : h.Ns mainGlobals mg) {x : Str} {b : String} (c : bltB x b K = true) : mg x = some (.builtin b) := PySem.W.mg_of X G (He.eqO_ok c)
/-- the law's def, its frame's names in sight -/
theorem fn_data {P : Program} {w : World} {K : PySem.W.Frag} {mg : Str → Option Value} {base : Heap} {x qual : Str} {params : Arguments} {body : List Stmt} {scope : Scope} {kws : List (Str × V)} {fd : FuncData} {N ps : List Str} {k : Nat} {A : Type} {as : A → List AV}
    {R : Type} [Rp R] {f : A → Res R} {ρ0 : A → List Slot} (F : FunD K x qual params body scope [] kws (He.ga K x) fd) (S : FnScope N ps scope) (hl : ∀ u, (as u).length = ps.length := by intro _; rfl)
    (h0 : ∀ u, ρ0 u = (as u).map AV.slot ++ List.replicate (N.length - ps.length) .non := by intro _; rfl)
    (d : ∀ cdv A outer s H E, CtxOk (fcx P w K mg base N qual scope (He.ga K x) cdv A outer s H E) (fun c d _ H' => E c d H') k → ∀ u, SR (fcx P w K mg base N qual scope (He.ga K x) cdv A outer s H E) (fun c d _ H' => E c d H') none (ρ0 u) body (retD R) (f u)) :
    FnOk P w K mg base (CX P w) (k + 1) (He.ga K x) fd ps (spOf K as f) := by
  refine FunD.ok F S (fun vs H Q E h => ?_) (fun cdv A outer s H vs Q E hr h => ?_)
  · obtain ⟨S', u, _, r, _⟩ := h
    rw [r.length, hl]
  · obtain ⟨S', u, hd, r, hp⟩ := h
    obtain ⟨t, p, q⟩ := (d cdv A outer s H E (fctx S hr) u).ex
    refine ⟨t, p, q S' [] _ H _ ?_ (hp.imp (fun y hy v σ' H' own' x' _ z => hy H' v x'.nil_same (Rp.mono (hide_mono fun b hb => List.mem_append_left _ hb) z)) fun e he σ' H' own' c d x' _ z => ?_)⟩
    · rw [h0, ← hl u, ← r.length]
      exact rs_start r hd
    · obtain ⟨z1, dx, fs, z2, z3, z4⟩ := z
      refine he H' c d x'.nil_same ⟨z1, dx, fs, z2, hide_mono (fun b hb => List.mem_append_left _ hb) _ _ z3, Paired.imp2 z4 fun a b z => ⟨z.1, ?_⟩⟩
      exact (dp_same (hide_mono fun b hb => List.mem_append_left _ hb) z.2)
/-- the walk of a law of one number list, of bounded digits -/
theorem walk_py {l : PySem.W.OpenLaw} {n k : Nat} {q : Program} {loose : List Str} {XP : (Str → Option Value) → Heap → Prop} {YP : World → Heap → Prop} {d : DefRec} {x : Str} {f : Scr × Unit → Res Bool}
    (hn : l.most = some n) (hn2 : n ≤ sizeLine) (hdf : d.params.defaults = []) (hr : Room k callerA)
    (hf : ∀ ns : List Int, ns.length ≤ n → (∀ z ∈ ns, Builtin.Int.intBits z ≤ 1048576) → f (⟨ns⟩, ()) = .ok true)
    (F : ∀ (w : World) (mg : Str → Option Value) (fa : Addr) (h : Heap), YP w h → h.Ns mainGlobals mg → mg d.name = some (.ref fa) →
      ∃ (K : PySem.W.Frag) (fd : FuncData), K.In h ∧ (∀ (s : Shared) (u : Value), BindsTo s fd ⟨[u], []⟩ [(x, u)]) ∧
        ∀ base : Heap, K.In base → base.Ns mainGlobals mg → FnOk l.prog w K mg base (CX l.prog w) k fa fd [x] (spOf K (asC asN) f)) :
    PySem.W.WalkO q loose XP YP l.row.toRowW d [] (fun f vs => PySem.call f vs) := by
  refine Att.attach_callB hn hdf fun w s₀ s₁ mg mb fa o pm cd doc a vs ns G Y ho hd hcd hmg hobj hints hlen hbits hg => ?_
  obtain ⟨K, fd, KX, hb, hF⟩ := F w mg fa _ Y G.T.g hmg
  refine law_call KX G.T.g G.T.b G.T.builtins G.T.nolimit hg hobj hints (Nat.le_trans hlen hn2) hr hF hb (fun H hO hS => law_sp (hf ns hlen hbits) hS) fun H e s' h => ?_
  obtain ⟨_, _, _, _, _, _, _, _, _, _, _, _, z⟩ := h
  exact z.elim
end Py

set_option Elab.async false
set_option linter.all false
set_option maxRecDepth 100000
set_option maxHeartbeats 1000000
/-! Py, part M: the plain side. -/
namespace Py
open PySem PySem.Spec L2
open Rp (rp)
/-- it answers, and so -/
abbrev Ok {α : Type} (m : Res α) (Q : α → Prop) : Prop := Post m Q fun _ => False
section
variable {α β γ S T U : Type} {E : Ex → Prop} {Q Q' : β → Prop}
theorem ok_eq {m : Res α} {x : α} (h : Ok m (· = x)) : m = .ok x := by
  cases m with
  | ok a => exact congrArg Res.ok h
  | err e => exact h.elim
  | bad => exact h.elim
theorem Ok.of {m : Res α} {x : α} (h : m = .ok x) : Ok m (· = x) := by subst h; exact rfl
theorem wp {m : Res α} {f : α → Res β} {P : α → Prop} (h : Post m P E) (k : ∀ a, P a → Post (f a) Q E) : Post (m.bind f) Q E := by
  cases m with
  | ok a => exact k a h
  | err e => exact h
  | bad => exact h
theorem wpe {m : Res α} {f : α → Res β} {a : α} (h : m = .ok a) (k : Post (f a) Q E) : Post (m.bind f) Q E := by subst h; exact k
theorem Post.mono {m : Res α} {P P' : α → Prop} (h : Post m P E) (k : ∀ a, P a → P' a) : Post m P' E := h.imp k fun _ z => z
theorem Post.lift {m : Res α} {P : α → Prop} (h : Ok m P) : Post m P E := h.imp (fun _ z => z) fun _ z => z.elim
theorem Post.and {m : Res α} {P P' : α → Prop} (h : Post m P E) (k : Post m P' E) : Post m (fun a => P a ∧ P' a) E := by
  cases m with
  | ok a => exact ⟨h, k⟩
  | err e => exact h
  | bad => exact h
/-- bind at an answer, not by rfl (simp's rfl steps cost the kernel) -/
theorem bok (a : α) (f : α → Res β) : (Res.ok a).bind f = f a := by
  have h : ∀ m : Res α, m = .ok a → m.bind f = f a := by intro m h; subst h; rfl
  exact h _ rfl
theorem guardR_ok {c : Bool} {m : Res α} (h : c = true) : guardR c m = m := by subst h; rfl
/-! numbers -/
theorem log2_lt {n k : Nat} (h : n < 2 ^ k) (hk : 0 < k) : n.log2 < k := by
  by_cases z : n = 0
  · subst z; simpa using hk
  · exact (Nat.log2_lt z).2 h
theorem mul_big {x y : Int} {a b : Nat} (hx : x.natAbs < 2 ^ a) (hy : y.natAbs < 2 ^ b) (h : a + b ≤ 1000000) : mulM x y = .ok (x * y) := by
  have c : mulOk x y = true := by
    unfold mulOk
    by_cases a0 : a = 0
    · subst a0
      have : x = 0 := by omega
      subst this
      rfl
    by_cases b0 : b = 0
    · subst b0
      have : y = 0 := by omega
      subst this
      simp
    have h1 := log2_lt hx (by omega)
    have h2 := log2_lt hy (by omega)
    have : x.natAbs.log2 + y.natAbs.log2 < 1000000 := by omega
    simp [this]
  exact guardR_ok c
theorem mul_l {x y : Int} (h : x.natAbs < 18446744073709551616) : mulM x y = .ok (x * y) := by
  have c : mulOk x y = true := by
    unfold mulOk
    have h1 : -(2 ^ 64) < x := by omega
    have h2 : x < 2 ^ 64 := by omega
    rw [decide_eq_true h1, decide_eq_true h2]; rfl
  exact guardR_ok c
theorem mul_r {x y : Int} (h : y.natAbs < 18446744073709551616) : mulM x y = .ok (x * y) := by
  have c : mulOk x y = true := by
    unfold mulOk
    have h1 : -(2 ^ 64) < y := by omega
    have h2 : y < 2 ^ 64 := by omega
    rw [decide_eq_true h1, decide_eq_true h2]
    cases (decide (-(2 ^ 64) < x) && decide (x < 2 ^ 64)) <;> rfl
  exact guardR_ok c
theorem mod_ok {x y : Int} (h : y ≠ 0) : modM x y = .ok (x.fmod y) := guardR_ok (decide_eq_true h)
theorem mod_pos {x y : Int} (h : 0 < y) : modM x y = .ok (x % y) := by rw [mod_ok (by omega), Int.fmod_eq_emod_of_nonneg _ (by omega)]
theorem div_ok {x y : Int} (h : y ≠ 0) {k : Nat} (h2 : y.natAbs < 2 ^ k) (hk : k ≤ 9000) : divM x y = .ok (x.fdiv y) := by
  have k0 : 0 < k := by
    cases k with
    | zero => omega
    | succ n => omega
  have h3 := log2_lt h2 k0
  exact guardR_ok (by unfold divOk; rw [decide_eq_true h, decide_eq_true (show y.natAbs.log2 < 9000 by omega)]; rfl)
theorem div_pos {x y : Int} (h : 0 < y) {k : Nat} (h2 : y.natAbs < 2 ^ k) (hk : k ≤ 9000) : divM x y = .ok (x / y) := by
  rw [div_ok (by omega) h2 hk, Int.fdiv_eq_ediv_of_nonneg _ (by omega)]
theorem div_s {x y : Int} (h : 0 < y) (h2 : y < 4294967296) : divM x y = .ok (x / y) := div_pos h (k := 32) (by omega) (by omega)
theorem pow_ok {x y : Int} (h : 0 ≤ y) (h2 : y ≤ 1000000) (h3 : x.natAbs < 18446744073709551616) : powM x y = .ok (x ^ y.toNat) :=
  guardR_ok (by rw [decide_eq_true h, decide_eq_true h2, decide_eq_true (show x.natAbs < 2 ^ 64 by omega)]; rfl)
theorem inRange_of {j : Int} (h : -4611686018427387904 ≤ j) (h2 : j < 4611686018427387904) : inRange j = true := by
  unfold inRange
  rw [decide_eq_true (show -(2 ^ 62) ≤ j by omega), decide_eq_true (show j < 2 ^ 62 by omega)]; rfl
theorem rng_mem {lo hi x : Int} (h : x ∈ rng lo hi) : lo ≤ x ∧ x < hi := by
  obtain ⟨i, hi', e⟩ := List.mem_map.mp h
  have := List.mem_range.mp hi'
  omega
/-! lists -/
theorem idx_ok {xs : List α} {i : Int} (h : 0 ≤ i) (h2 : i < xs.length) : idxM xs i = .ok (xs[i.toNat]'(by omega)) := by
  unfold idxM atI ixN
  rw [if_pos h, if_pos h2]
  show (match xs[i.toNat]? with | some x => Res.ok x | none => .bad) = _
  rw [List.getElem?_eq_getElem (by omega)]
theorem idx_all {xs : List α} {P : α → Prop} {i : Int} (h : 0 ≤ i) (h2 : i < xs.length) (k : ∀ x ∈ xs, P x) : Post (idxM xs i) P E := by
  rw [idx_ok h h2]
  exact k _ (List.getElem_mem _)
theorem idx_nat {xs : List α} {n : Nat} (h : n < xs.length) : idxM xs (n : Int) = .ok xs[n] := idx_ok (by omega) (by omega)
theorem apn_ok {xs : List α} {x : α} (h : xs.length < sizeLine) : appM xs x = .ok (xs ++ [x]) := guardR_ok (decide_eq_true h)
theorem cat_ok {xs ys : List α} (h : xs.length + ys.length ≤ sizeLine) : catM xs ys = .ok (xs ++ ys) := guardR_ok (decide_eq_true h)
theorem ipow2 {m n : Nat} (h : m ≤ n) : (2 : Int) ^ m ≤ 2 ^ n := by
  have z := Nat.pow_le_pow_right (n := 2) (by decide) h
  have e : ∀ k : Nat, (2 : Int) ^ k = ((2 ^ k : Nat) : Int) := fun k => by simp
  rw [e, e]; exact Int.ofNat_le.mpr z
theorem ipow10 {m n : Nat} (h : m ≤ n) : (10 : Int) ^ m ≤ 10 ^ n := by
  have z := Nat.pow_le_pow_right (n := 10) (by decide) h
  have e : ∀ k : Nat, (10 : Int) ^ k = ((10 ^ k : Nat) : Int) := fun k => by simp
  rw [e, e]; exact Int.ofNat_le.mpr z
theorem foldl_keep {P : α → Prop} {f : α → β → α} {xs : List β} {s : α} (h : P s) (k : ∀ s x, x ∈ xs → P s → P (f s x)) : P (xs.foldl f s) := by
  induction xs generalizing s with
  | nil => exact h
  | cons x r ih => exact ih (k s x (List.mem_cons_self ..) h) fun s y hy => k s y (List.mem_cons_of_mem _ hy)
/-! loops -/
theorem forR_wp {f : S → T → Res S} {I : List T → S → Prop} {xs : List T} {s : S} {done : List T} (h : I done s) (k : ∀ d x r s, done ++ xs = d ++ x :: r → I d s → Post (f s x) (fun s' => I (d ++ [x]) s') E) : Post (forR f xs s) (fun s' => I (done ++ xs) s') E := by
  induction xs generalizing s done with
  | nil => rw [List.append_nil]; exact h
  | cons x r ih =>
    refine wp (k done x r s rfl h) fun s' h' => ?_
    have z := ih (done := done ++ [x]) h' fun d y q s e => k d y q s (by rw [← e]; simp)
    rw [List.append_assoc] at z
    exact z
/-- a fold whose steps keep I -/
theorem forR_inv {f : S → T → Res S} {I : S → Prop} {xs : List T} {s : S} (h : I s) (k : ∀ x s, x ∈ xs → I s → Post (f s x) I E) : Post (forR f xs s) I E :=
  forR_wp (I := fun _ s => I s) (done := []) h fun d x r s e hs => k x s (by have e2 : xs = d ++ x :: r := e; rw [e2]; simp) hs
theorem forR_eq {f : S → T → Res S} {g : S → T → S} : ∀ {xs : List T} {s : S}, (∀ s x, x ∈ xs → f s x = .ok (g s x)) → forR f xs s = .ok (xs.foldl g s)
  | [], s, h => rfl
  | x :: r, s, h => by
    show (f s x).bind _ = _
    rw [h s x (List.mem_cons_self ..)]
    exact forR_eq fun s y hy => h s y (List.mem_cons_of_mem _ hy)
/-- a loop that only looks, and finds nothing to return -/
theorem forC_look {B R : Type} {f : Unit → T → Res (Ctl Unit Unit R)} {xs : List T} (h : ∀ x ∈ xs, f () x = .ok (.nx ())) : (forC f xs () : Res (Ctl Unit B R)) = .ok (.nx ()) := by
  induction xs with
  | nil => rfl
  | cons x r ih =>
    show (f () x).bind _ = _
    rw [h x (List.mem_cons_self ..)]
    exact ih fun y hy => h y (List.mem_cons_of_mem _ hy)
theorem lcM_ok {t : T → Res Bool} {f : T → Res U} {g : T → U} {xs : List T} (h : ∀ x ∈ xs, t x = .ok true) (h2 : ∀ x ∈ xs, f x = .ok (g x)) : lcM t f xs = .ok (xs.map g) := by
  induction xs with
  | nil => rfl
  | cons x r ih =>
    show (t x).quiet.bind _ = _
    rw [h x (List.mem_cons_self ..)]
    show (f x).quiet.bind _ = _
    rw [h2 x (List.mem_cons_self ..)]
    show (lcM t f r).bind _ = _
    rw [ih (fun y hy => h y (List.mem_cons_of_mem _ hy)) (fun y hy => h2 y (List.mem_cons_of_mem _ hy))]
    rfl
theorem lcX_ok {f : T → Res U} {g : T → U} {xs : List T} (hl : xs.length ≤ sizeLine) (h2 : ∀ x ∈ xs, f x = .ok (g x)) : lcX (fun _ => Res.ok true) f xs = .ok (xs.map g) := by
  unfold lcX
  rw [guardR_ok (decide_eq_true hl)]
  exact lcM_ok (fun _ _ => rfl) h2
end
/-! what the laws compare: data of few levels -/
def lenCap : Nat := 1000000
theorem lenCap_eq : lenCap = 1000000 := rfl
def Dsh : Nat → PyData → Prop
  | 0, _ => False
  | n + 1, .list xs => xs.length < lenCap ∧ ∀ x ∈ xs, Dsh n x
  | n + 1, .tuple xs => xs.length < lenCap ∧ ∀ x ∈ xs, Dsh n x
  | _ + 1, .none => True
  | _ + 1, .bool _ => True
  | _ + 1, .int _ => True
  | _ + 1, .str x => PySem.PyData.strOk x = true
  | _ + 1, _ => False
theorem dsh_list {T : Type} [Rp T] [Dat T] {n : Nat} {xs : List T} (h : xs.length < lenCap) (k : ∀ x ∈ xs, Dsh n (Dat.toD x)) : Dsh (n + 1) (Dat.toD xs) := by
  refine ⟨by rw [List.length_map]; exact h, fun d hd => ?_⟩
  obtain ⟨x, hx, rfl⟩ := List.mem_map.mp hd
  exact k x hx
theorem dsh_tup {T : Type} [Rp T] [Dat T] {n : Nat} {xs : Tup T} (h : xs.l.length < lenCap) (k : ∀ x ∈ xs.l, Dsh n (Dat.toD x)) : Dsh (n + 1) (Dat.toD xs) := by
  refine ⟨by rw [List.length_map]; exact h, fun d hd => ?_⟩
  obtain ⟨x, hx, rfl⟩ := List.mem_map.mp hd
  exact k x hx
theorem dsh_pair {A B : Type} [Rp A] [Rp B] [Dat A] [Dat B] {n : Nat} {p : A × B} (h1 : Dsh n (Dat.toD p.1)) (h2 : Dsh n (Dat.toD p.2)) : Dsh (n + 1) (Dat.toD p) := by
  refine ⟨by show 2 < lenCap; rw [lenCap_eq]; omega, fun d hd => ?_⟩
  rcases List.mem_cons.mp hd with rfl | hd
  · exact h1
  · rcases List.mem_cons.mp hd with rfl | hd
    · exact h2
    · cases hd
theorem eqvD_int (i : Int) : eqvD ⟨.int i⟩ ⟨.int i⟩ = .ok true := by
  unfold eqvD
  have h : SeqAt.shaped (.int i) = true := dat_shaped (T := Int) (by decide) i rfl
  rw [guardR_ok (by rw [show SeqAt.shaped (PD.mk (.int i)).d = true from h]; rfl)]
  show Res.ok (PyData.eqv (.int i) (.int i)) = _
  rw [show PyData.eqv (.int i) (.int i) = Dat.dec i i from Dat.eqv i i, (Dat.iff i i).mpr rfl]
theorem eqvD_str {i : Str} (h0 : PySem.PyData.strOk i = true) : eqvD ⟨.str i⟩ ⟨.str i⟩ = .ok true := by
  unfold eqvD
  have h : SeqAt.shaped (.str i) = true := dat_shaped (T := Str) (by decide) i h0
  rw [guardR_ok (by rw [show SeqAt.shaped (PD.mk (.str i)).d = true from h]; rfl)]
  show Res.ok (PyData.eqv (.str i) (.str i)) = _
  rw [show PyData.eqv (.str i) (.str i) = Dat.dec i i from Dat.eqv i i, (Dat.iff i i).mpr rfl]
theorem idxD_list {xs : List PyData} {i : Int} (h : 0 ≤ i) (h2 : i < xs.length) : idxD ⟨.list xs⟩ i = .ok ⟨xs[i.toNat]'(by omega)⟩ := by
  show (idxM xs i).bind _ = _
  rw [idx_ok h h2]; rfl
theorem idxD_tup {xs : List PyData} {i : Int} (h : 0 ≤ i) (h2 : i < xs.length) : idxD ⟨.tuple xs⟩ i = .ok ⟨xs[i.toNat]'(by omega)⟩ := by
  show (idxM xs i).bind _ = _
  rw [idx_ok h h2]; rfl
end Py

set_option Elab.async false
set_option linter.all false
set_option maxRecDepth 100000
set_option maxHeartbeats 4000000
namespace Lw
open PySem PySem.Spec L2 Py
def topS (i : Nat) : Stmt := PySem.Challenge.pw_judgesandtrees_k02_ratios_by_own_sums.main.body.getD i (.Pass ⟨0, 0, 0, 0⟩)
/-- what the top leaves -/
structure Fx (K : PySem.W.Frag) (mg : Str → Option Value) : Prop where
  d_lowest : ∃ fd, FunD K "lowest" "lowest" (defArgs (topS 2)) (defBody (topS 2)) (defScope (topS 2)) [] [] (He.ga K "lowest") fd
  g_lowest : mg "lowest" = some (.ref (He.ga K "lowest"))
  d_lowest_row : ∃ fd, FunD K "lowest_row" "lowest_row" (defArgs (topS 3)) (defBody (topS 3)) (defScope (topS 3)) [] [] (He.ga K "lowest_row") fd
  g_lowest_row : mg "lowest_row" = some (.ref (He.ga K "lowest_row"))
  d_compare_ratios : ∃ fd, FunD K "compare_ratios" "compare_ratios" (defArgs (topS 4)) (defBody (topS 4)) (defScope (topS 4)) [] [] (He.ga K "compare_ratios") fd
  g_compare_ratios : mg "compare_ratios" = some (.ref (He.ga K "compare_ratios"))
  d__law_is_whole : ∃ fd, FunD K "_law_is_whole" "_law_is_whole" (defArgs (topS 6)) (defBody (topS 6)) (defScope (topS 6)) [] [] (He.ga K "_law_is_whole") fd
  g__law_is_whole : mg "_law_is_whole" = some (.ref (He.ga K "_law_is_whole"))
  d__law_cell : ∃ fd, FunD K "_law_cell" "_law_cell" (defArgs (topS 7)) (defBody (topS 7)) (defScope (topS 7)) [] [] (He.ga K "_law_cell") fd
  g__law_cell : mg "_law_cell" = some (.ref (He.ga K "_law_cell"))
  d__law_many : ∃ fd, FunD K "_law_many" "_law_many" (defArgs (topS 8)) (defBody (topS 8)) (defScope (topS 8)) [] [] (He.ga K "_law_many") fd
  g__law_many : mg "_law_many" = some (.ref (He.ga K "_law_many"))
  d__law_says : ∃ fd, FunD K "_law_says" "_law_says" (defArgs (topS 9)) (defBody (topS 9)) (defScope (topS 9)) [] [] (He.ga K "_law_says") fd
  g__law_says : mg "_law_says" = some (.ref (He.ga K "_law_says"))
  d__law_alike : ∃ fd, FunD K "_law_alike" "_law_alike" (defArgs (topS 10)) (defBody (topS 10)) (defScope (topS 10)) [] [] (He.ga K "_law_alike") fd
  g__law_alike : mg "_law_alike" = some (.ref (He.ga K "_law_alike"))
  d__law_common : ∃ fd, FunD K "_law_common" "_law_common" (defArgs (topS 11)) (defBody (topS 11)) (defScope (topS 11)) [] [] (He.ga K "_law_common") fd
  g__law_common : mg "_law_common" = some (.ref (He.ga K "_law_common"))
  d__law_number : ∃ fd, FunD K "_law_number" "_law_number" (defArgs (topS 12)) (defBody (topS 12)) (defScope (topS 12)) [] [] (He.ga K "_law_number") fd
  g__law_number : mg "_law_number" = some (.ref (He.ga K "_law_number"))
  d__law_ratio : ∃ fd, FunD K "_law_ratio" "_law_ratio" (defArgs (topS 13)) (defBody (topS 13)) (defScope (topS 13)) [] [] (He.ga K "_law_ratio") fd
  g__law_ratio : mg "_law_ratio" = some (.ref (He.ga K "_law_ratio"))
  d__law_lowered : ∃ fd, FunD K "_law_lowered" "_law_lowered" (defArgs (topS 14)) (defBody (topS 14)) (defScope (topS 14)) [] [] (He.ga K "_law_lowered") fd
  g__law_lowered : mg "_law_lowered" = some (.ref (He.ga K "_law_lowered"))
  d__law_neighbours : ∃ fd, FunD K "_law_neighbours" "_law_neighbours" (defArgs (topS 15)) (defBody (topS 15)) (defScope (topS 15)) [] [] (He.ga K "_law_neighbours") fd
  g__law_neighbours : mg "_law_neighbours" = some (.ref (He.ga K "_law_neighbours"))
  d__law_lowest_right : ∃ fd, FunD K "_law_lowest_right" "_law_lowest_right" (defArgs (topS 16)) (defBody (topS 16)) (defScope (topS 16)) [] [] (He.ga K "_law_lowest_right") fd
  g__law_lowest_right : mg "_law_lowest_right" = some (.ref (He.ga K "_law_lowest_right"))
  d__law_compared : ∃ fd, FunD K "_law_compared" "_law_compared" (defArgs (topS 17)) (defBody (topS 17)) (defScope (topS 17)) [] [] (He.ga K "_law_compared") fd
  g__law_compared : mg "_law_compared" = some (.ref (He.ga K "_law_compared"))
  d__law_row_right : ∃ fd, FunD K "_law_row_right" "_law_row_right" (defArgs (topS 18)) (defBody (topS 18)) (defScope (topS 18)) [] [] (He.ga K "_law_row_right") fd
  g__law_row_right : mg "_law_row_right" = some (.ref (He.ga K "_law_row_right"))
  d__law_row : ∃ fd, FunD K "_law_row" "_law_row" (defArgs (topS 19)) (defBody (topS 19)) (defScope (topS 19)) [] [] (He.ga K "_law_row") fd
  g__law_row : mg "_law_row" = some (.ref (He.ga K "_law_row"))
  d_law : ∃ fd, FunD K "law" "law" (defArgs (topS 20)) (defBody (topS 20)) (defScope (topS 20)) [] [] (He.ga K "law") fd
  g_law : mg "law" = some (.ref (He.ga K "law"))
  n_abs : mg "abs" = none
  n_bool : mg "bool" = none
  n_int : mg "int" = none
  n_isinstance : mg "isinstance" = none
  n_len : mg "len" = none
  n_list : mg "list" = none
  n_max : mg "max" = none
  n_range : mg "range" = none
  n_str : mg "str" = none
  n_tuple : mg "tuple" = none
  c_gcd : mg "gcd" = some (.builtin "math.gcd")
def m_lowest (top : Int) (bottom : Int) : Res (Int × Int) :=
  (Res.bind (Res.ok ((Nat.gcd (top).natAbs (bottom).natAbs : Nat) : Int)) fun common1 => (Res.bind (if decide (bottom < 0) then (Res.bind (Res.ok (-common1)) fun common3 => (Res.ok common3)) else (Res.ok common1)) fun r2 => (Res.bind (divM top r2) fun a4 => Res.bind (divM bottom r2) fun a5 => Res.ok (a4, a5))))
abbrev s_lowest : Stmt := topS 2
theorem sc_lowest : FnScope ["top", "bottom", "common"] ["top", "bottom"] (defScope s_lowest) := ⟨rfl, rfl, rfl, by decide +kernel, rfl, by decide +kernel, by decide +kernel⟩
theorem ok_lowest {P : Program} {w : World} {K : PySem.W.Frag} {mg : Str → Option Value} {base : Heap} (G : Fx K mg) : FOk P w K mg base "lowest" 1 (spOf K (asC (T := Int) (asC (T := Int) asN)) (fun u : Int × Int × Unit => m_lowest u.1 u.2.1)) := by
  obtain ⟨fd, F⟩ := G.d_lowest
  refine fok_data (ρ0 := fun u : Int × Int × Unit => [.val Int u.1, .val Int u.2.1, .non]) F G.g_lowest sc_lowest (F.bindsN (ps := ["top", "bottom"]) fun _ _ _ _ _ _ us hl => match us, hl with | [_, _], _ => rfl) (by intro _; rfl) (by intro _; rfl) fun cdv A outer s H E C => ?_
  rintro ⟨top, bottom, ⟨⟩⟩
  show SR _ _ none [.val Int top, .val Int bottom, .non] _ (retD (Int × Int)) (m_lowest top bottom)
  unfold m_lowest
  exact (r_cons (n_set 2 (n3 := fun common1 => [.val Int top, .val Int bottom, .val Int common1]) C.nd (e_gcdp (e_var 0) (e_var 1) G.c_gcd)) fun common1 => (r_cons (n_ifp (n := fun (r2 : Int) => [.val Int top, .val Int bottom, .val Int r2]) (CJ.t (e_ltp (e_var 1) e_int)) (b_cons (n_set 2 (n3 := fun common3 => [.val Int top, .val Int bottom, .val Int common3]) C.nd (e_negp (e_var 2))) fun common3 => (b_nil (.s (.s (.s .nil))))) (b_nil (.s (.s (.s .nil))))) fun r2 => (r_ret (e_tup (mk := (fun u => (u.1, u.2.1))) (a_cons (e_fdivp (e_var 0) (e_var 2)) fun a4 => (a_cons (e_fdivp (e_var 1) (e_var 2)) fun a5 => a_nil))))))
def m_lowest_row (numbers : List Int) : Res (List Int) :=
  (Res.bind (Res.ok 0) fun common1 => (Res.bind (Res.bind (Res.ok numbers) fun z5 => forR (fun (r2 : Int) number3 => (Res.bind (Res.ok ((Nat.gcd (r2).natAbs (number3).natAbs : Nat) : Int)) fun common4 => (Res.ok common4))) z5 common1) fun r2 => (if decide (r2 < 2) then (Res.ok numbers) else (Res.bind (Res.ok numbers) fun z8 => lcX (fun _ => Res.ok true) (fun number7 => (divM number7 r2)) z8))))
abbrev s_lowest_row : Stmt := topS 3
theorem sc_lowest_row : FnScope ["numbers", "common", "number"] ["numbers"] (defScope s_lowest_row) := ⟨rfl, rfl, rfl, by decide +kernel, rfl, by decide +kernel, by decide +kernel⟩
theorem ok_lowest_row {P : Program} {w : World} {K : PySem.W.Frag} {mg : Str → Option Value} {base : Heap} (G : Fx K mg) : FOk P w K mg base "lowest_row" 1 (spFr K (asC (T := (List Int)) asN) (fun u : (List Int) × Unit => m_lowest_row u.1)) := by
  obtain ⟨fd, F⟩ := G.d_lowest_row
  refine fok_fr (ρ0 := fun u : (List Int) × Unit => [.val (List Int) u.1, .non, .non]) F G.g_lowest_row sc_lowest_row (F.bindsN (ps := ["numbers"]) fun _ _ _ _ _ _ us hl => match us, hl with | [_], _ => rfl) (by intro _; rfl) (by intro _; rfl) fun cdv A outer s H E C => ?_
  rintro ⟨numbers, ⟨⟩⟩
  show SR _ _ none [.val (List Int) numbers, .non, .non] _ (retF Int) (m_lowest_row numbers)
  unfold m_lowest_row
  exact (r_cons (n_set 1 (n3 := fun common1 => [.val (List Int) numbers, .val Int common1, .non]) C.nd e_int) fun common1 => (r_cons (n_for (ρl := fun (r2 : Int) => [.val (List Int) numbers, .val Int r2, .non]) (s0 := common1) C (i_list (e_var 0)) (g_name 2 C.nd) (.s (.s (.n .nil))) (fun r2 number3 => b_at [.val (List Int) numbers, .val Int r2, .val Int number3] (b_cons (n_set 1 (n3 := fun common4 => [.val (List Int) numbers, .val Int common4, .val Int number3]) C.nd (e_gcdp (e_var 1) (e_var 2) G.c_gcd)) fun common4 => (b_nil (.s (.s (.n .nil))))))) fun r2 => (r_ifp (CJ.t (e_ltp (e_var 1) e_int)) (r_retF (f_listofp (EG.lg (e_var 0)) G.n_list)) (r_retF (f_lc (ow := [(Str.ofString "number", 2)]) (ρw := [.val (List Int) numbers, .val Int r2, .non]) C (i_list (e_var 0)) (fun s H Cc cl fp => ⟨(g_name 2 C.blk.nd), fun _ => lc_none, fun number7 => e_at [.val (List Int) numbers, .val Int r2, .val Int number7] (e_fdivp (e_var 2) (e_var 1))⟩))))))
def m_compare_ratios (first : Int × Int) (second : Int × Int) : Res Int :=
  (Res.bind (Res.bind (mulM first.1 second.2) fun x2 => Res.bind (mulM second.1 first.2) fun y3 => Res.ok (x2 - y3)) fun gap1 => (if (decide (gap1 = 0)) then (Res.ok 0) else (Res.ok (if (decide (0 < gap1)) then 1 else (-1)))))
abbrev s_compare_ratios : Stmt := topS 4
theorem sc_compare_ratios : FnScope ["first", "second", "gap"] ["first", "second"] (defScope s_compare_ratios) := ⟨rfl, rfl, rfl, by decide +kernel, rfl, by decide +kernel, by decide +kernel⟩
theorem ok_compare_ratios {P : Program} {w : World} {K : PySem.W.Frag} {mg : Str → Option Value} {base : Heap} (G : Fx K mg) : FOk P w K mg base "compare_ratios" 1 (spOf K (asC (T := (Int × Int)) (asC (T := (Int × Int)) asN)) (fun u : (Int × Int) × (Int × Int) × Unit => m_compare_ratios u.1 u.2.1)) := by
  obtain ⟨fd, F⟩ := G.d_compare_ratios
  refine fok_data (ρ0 := fun u : (Int × Int) × (Int × Int) × Unit => [.val (Int × Int) u.1, .val (Int × Int) u.2.1, .non]) F G.g_compare_ratios sc_compare_ratios (F.bindsN (ps := ["first", "second"]) fun _ _ _ _ _ _ us hl => match us, hl with | [_, _], _ => rfl) (by intro _; rfl) (by intro _; rfl) fun cdv A outer s H E C => ?_
  rintro ⟨first, second, ⟨⟩⟩
  show SR _ _ none [.val (Int × Int) first, .val (Int × Int) second, .non] _ (retD Int) (m_compare_ratios first second)
  unfold m_compare_ratios
  exact (r_cons (n_set 2 (n3 := fun gap1 => [.val (Int × Int) first, .val (Int × Int) second, .val Int gap1]) C.nd (e_sub (e_mulp (e_plp (j := 0) (f := fun (x : (Int × Int)) => x.1) (e_var 0)) (e_plp (j := 1) (f := fun (x : (Int × Int)) => x.2) (e_var 1))) (e_mulp (e_plp (j := 0) (f := fun (x : (Int × Int)) => x.1) (e_var 1)) (e_plp (j := 1) (f := fun (x : (Int × Int)) => x.2) (e_var 0))))) fun gap1 => (r_ifp (CJ.t (e_eqp (e_var 2) e_int)) (r_ret e_int) (r_ret (e_ifp (CJ.t (e_gtp (e_var 2) e_int)) e_int (e_negp e_int)))))
def m__law_is_whole (x : PD) : Res Bool :=
  (Res.ok ((isInt x) && (!(isBl x))))
abbrev s__law_is_whole : Stmt := topS 6
theorem sc__law_is_whole : FnScope ["x"] ["x"] (defScope s__law_is_whole) := ⟨rfl, rfl, rfl, by decide +kernel, rfl, by decide +kernel, by decide +kernel⟩
theorem ok__law_is_whole {P : Program} {w : World} {K : PySem.W.Frag} {mg : Str → Option Value} {base : Heap} (G : Fx K mg) : FOk P w K mg base "_law_is_whole" 1 (spOf K (asC (T := PD) asN) (fun u : PD × Unit => m__law_is_whole u.1)) := by
  obtain ⟨fd, F⟩ := G.d__law_is_whole
  refine fok_data (ρ0 := fun u : PD × Unit => [.val PD u.1]) F G.g__law_is_whole sc__law_is_whole (F.bindsN (ps := ["x"]) fun _ _ _ _ _ _ us hl => match us, hl with | [_], _ => rfl) (by intro _; rfl) (by intro _; rfl) fun cdv A outer s H E C => ?_
  rintro ⟨x, ⟨⟩⟩
  show SR _ _ none [.val PD x] _ (retD Bool) (m__law_is_whole x)
  unfold m__law_is_whole
  exact (r_ret (e_andp (e_isip (f := isInt) (hk := isInt_ok) (e_var 0) G.n_isinstance G.n_int) (e_and1 (e_notp (e_isip (f := isBl) (hk := isBl_ok) (e_var 0) G.n_isinstance G.n_bool)))))
def m__law_cell (script : Scr) (k : Int) : Res Int :=
  (if decide (k < (script.ns.length : Int)) then (idxM script.ns k) else (if (decide (0 < (script.ns.length : Int))) then (Res.bind (Res.bind (Res.ok script) fun x1 => Res.bind (modM k (script.ns.length : Int)) fun y2 => idxM x1.ns y2) fun x3 => Res.bind (mulM 1000003 k) fun y4 => Res.ok (x3 + y4)) else (Res.ok k)))
abbrev s__law_cell : Stmt := topS 7
theorem sc__law_cell : FnScope ["script", "k"] ["script", "k"] (defScope s__law_cell) := ⟨rfl, rfl, rfl, by decide +kernel, rfl, by decide +kernel, by decide +kernel⟩
theorem ok__law_cell {P : Program} {w : World} {K : PySem.W.Frag} {mg : Str → Option Value} {base : Heap} (G : Fx K mg) : FOk P w K mg base "_law_cell" 1 (spOf K (asC (T := Scr) (asC (T := Int) asN)) (fun u : Scr × Int × Unit => m__law_cell u.1 u.2.1)) := by
  obtain ⟨fd, F⟩ := G.d__law_cell
  refine fok_data (ρ0 := fun u : Scr × Int × Unit => [.val Scr u.1, .val Int u.2.1]) F G.g__law_cell sc__law_cell (F.bindsN (ps := ["script", "k"]) fun _ _ _ _ _ _ us hl => match us, hl with | [_, _], _ => rfl) (by intro _; rfl) (by intro _; rfl) fun cdv A outer s H E C => ?_
  rintro ⟨script, k, ⟨⟩⟩
  show SR _ _ none [.val Scr script, .val Int k] _ (retD Int) (m__law_cell script k)
  unfold m__law_cell
  exact (r_ifp (CJ.t (e_ltp (e_var 1) (e_lenscr (e_var 0) G.n_len))) (r_ret (e_ixscrp (e_var 0) (e_var 1))) (r_ifp (CJ.t (e_gtp (e_lenscr (e_var 0) G.n_len) e_int)) (r_ret (e_add (e_ixscr (e_var 0) (e_modp (e_int1p (e_var 1) G.n_int) (e_lenscr (e_var 0) G.n_len))) (e_mulp e_int (e_var 1)))) (r_ret (e_var 1))))
def m__law_many (script : Scr) (k : Int) (many : Int) (limit : Int) : Res (List Int) :=
  (Res.bind (m__law_cell script k) fun cell1 => (Res.bind (Res.ok ((cell1).natAbs : Int)) fun left2 => (Res.bind (Res.ok ([] : List Int)) fun found3 => (Res.bind (Res.bind (guardR (inRange many) (Res.ok (rng 0 many))) fun z40 => forR (fun (r4 : Int × (List Int)) turn5 => (Res.bind (Res.bind (andM (Res.bind (Res.ok ((cell1).natAbs : Int)) fun x6 => Res.bind (powM 10 18) fun y7 => Res.ok (decide (y7 ≤ x6))) (Res.ok (decide (0 < r4.1)))) fun k39 => if k39 then (Res.bind (Res.bind (modM r4.1 limit) fun y10 => appM r4.2 y10) fun found9 => (Res.bind (divM r4.1 limit) fun left11 => (Res.ok (left11, found9)))) else (Res.bind (Res.bind (Res.bind (Res.bind (Res.bind (mulM cell1 48271) fun x13 => Res.bind (mulM turn5 69621) fun y14 => Res.ok (x13 + y14)) fun x15 => Res.bind (mulM 17 k) fun y16 => Res.ok (x15 + y16)) fun x17 => Res.bind (Res.ok 11) fun y18 => Res.ok (x17 + y18)) fun x19 => Res.bind (Res.ok 2147483647) fun y20 => modM x19 y20) fun mixed12 => (Res.bind (Res.bind (Res.bind (Res.bind (mulM mixed12 mixed12) fun x22 => Res.bind (mulM turn5 40692) fun y23 => Res.ok (x22 + y23)) fun x24 => Res.bind (Res.ok 3) fun y25 => Res.ok (x24 + y25)) fun x26 => Res.bind (Res.ok 2147483399) fun y27 => modM x26 y27) fun mixed21 => (Res.bind (Res.bind (Res.bind (Res.bind (mulM mixed21 mixed21) fun x29 => Res.bind (mulM turn5 7) fun y30 => Res.ok (x29 + y30)) fun x31 => Res.bind (Res.ok k) fun y32 => Res.ok (x31 + y32)) fun x33 => Res.bind (Res.ok 2147483579) fun y34 => modM x33 y34) fun mixed28 => (Res.bind (Res.bind (Res.bind (divM mixed28 64) fun x35 => Res.bind (Res.ok limit) fun y36 => modM x35 y36) fun y38 => appM r4.2 y38) fun found37 => (Res.ok (r4.1, found37))))))) fun r8 => (Res.ok (r8.1, r8.2)))) z40 (left2, found3)) fun r4 => (Res.ok r4.2)))))
abbrev s__law_many : Stmt := topS 8
theorem sc__law_many : FnScope ["script", "k", "many", "limit", "cell", "left", "found", "turn", "mixed"] ["script", "k", "many", "limit"] (defScope s__law_many) := ⟨rfl, rfl, rfl, by decide +kernel, rfl, by decide +kernel, by decide +kernel⟩
theorem ok__law_many {P : Program} {w : World} {K : PySem.W.Frag} {mg : Str → Option Value} {base : Heap} (G : Fx K mg) : FOk P w K mg base "_law_many" 2 (spFr K (asC (T := Scr) (asC (T := Int) (asC (T := Int) (asC (T := Int) asN)))) (fun u : Scr × Int × Int × Int × Unit => m__law_many u.1 u.2.1 u.2.2.1 u.2.2.2.1)) := by
  obtain ⟨fd, F⟩ := G.d__law_many
  refine fok_fr (ρ0 := fun u : Scr × Int × Int × Int × Unit => [.val Scr u.1, .val Int u.2.1, .val Int u.2.2.1, .val Int u.2.2.2.1, .non, .non, .non, .non, .non]) F G.g__law_many sc__law_many (F.bindsN (ps := ["script", "k", "many", "limit"]) fun _ _ _ _ _ _ us hl => match us, hl with | [_, _, _, _], _ => rfl) (by intro _; rfl) (by intro _; rfl) fun cdv A outer s H E C => ?_
  rintro ⟨script, k, many, limit, ⟨⟩⟩
  show SR _ _ none [.val Scr script, .val Int k, .val Int many, .val Int limit, .non, .non, .non, .non, .non] _ (retF Int) (m__law_many script k many limit)
  unfold m__law_many
  exact (r_cons (n_set 4 (n3 := fun cell1 => [.val Scr script, .val Int k, .val Int many, .val Int limit, .val Int cell1, .non, .non, .non, .non]) C.nd (e_call C (ok__law_cell G) (a_consp (e_var 0) (a_consp (e_var 1) a_nil)))) fun cell1 => (r_cons (n_set 5 (n3 := fun left2 => [.val Scr script, .val Int k, .val Int many, .val Int limit, .val Int cell1, .val Int left2, .non, .non, .non]) C.nd (e_absp (e_var 4) G.n_abs)) fun left2 => (r_cons (n_setF 6 (n3 := fun found3 => [.val Scr script, .val Int k, .val Int many, .val Int limit, .val Int cell1, .val Int left2, .own Int none found3, .non, .non]) C.nd (f_list (mk := (fun _ => ([] : List Int))) a_nil)) fun found3 => (r_cons (n_for (ρl := fun (r4 : Int × (List Int)) => [.val Scr script, .val Int k, .val Int many, .val Int limit, .val Int cell1, .val Int r4.1, .own Int none r4.2, .non, .non]) (s0 := (left2, found3)) C (i_range1p (e_var 2) G.n_range) (g_name 7 C.nd) (.s (.s (.s (.s (.s (.s (.s (.n (.n .nil))))))))) (fun r4 turn5 => b_at [.val Scr script, .val Int k, .val Int many, .val Int limit, .val Int cell1, .val Int r4.1, .own Int none r4.2, .val Int turn5, .non] (b_cons (n_if (n := fun (r8 : Int × (List Int)) => [.val Scr script, .val Int k, .val Int many, .val Int limit, .val Int cell1, .val Int r8.1, .own Int none r8.2, .val Int turn5, .non]) (TWJ.pt (tw_and (CJ.t (e_ge (e_absp (e_var 4) G.n_abs) (e_powp e_int e_int))) (tw_and1 (CJ.t (e_gtp (e_var 5) e_int))))) (b_cons (n_app 6 (n3 := fun found9 => [.val Scr script, .val Int k, .val Int many, .val Int limit, .val Int cell1, .val Int r4.1, .own Int none found9, .val Int turn5, .non]) (e_modp (e_int1p (e_var 5) G.n_int) (e_var 3))) fun found9 => (b_cons (n_set 5 (n3 := fun left11 => [.val Scr script, .val Int k, .val Int many, .val Int limit, .val Int cell1, .val Int left11, .own Int none found9, .val Int turn5, .non]) C.nd (e_fdivp (e_var 5) (e_var 3))) fun left11 => (b_nil (.s (.s (.s (.s (.s (.s (.s (.s (.n .nil)))))))))))) (b_cons (n_set 8 (n3 := fun mixed12 => [.val Scr script, .val Int k, .val Int many, .val Int limit, .val Int cell1, .val Int r4.1, .own Int none r4.2, .val Int turn5, .val Int mixed12]) C.nd (e_mod (e_int1m (e_add (e_add (e_add (e_mulp (e_var 4) e_int) (e_mulp (e_var 7) e_int)) (e_mulp e_int (e_var 1))) e_int) G.n_int) e_int)) fun mixed12 => (b_cons (n_set 8 (n3 := fun mixed21 => [.val Scr script, .val Int k, .val Int many, .val Int limit, .val Int cell1, .val Int r4.1, .own Int none r4.2, .val Int turn5, .val Int mixed21]) C.nd (e_mod (e_int1m (e_add (e_add (e_mulp (e_var 8) (e_var 8)) (e_mulp (e_var 7) e_int)) e_int) G.n_int) e_int)) fun mixed21 => (b_cons (n_set 8 (n3 := fun mixed28 => [.val Scr script, .val Int k, .val Int many, .val Int limit, .val Int cell1, .val Int r4.1, .own Int none r4.2, .val Int turn5, .val Int mixed28]) C.nd (e_mod (e_int1m (e_add (e_add (e_mulp (e_var 8) (e_var 8)) (e_mulp (e_var 7) e_int)) (e_var 1)) G.n_int) e_int)) fun mixed28 => (b_cons (n_app 6 (n3 := fun found37 => [.val Scr script, .val Int k, .val Int many, .val Int limit, .val Int cell1, .val Int r4.1, .own Int none found37, .val Int turn5, .val Int mixed28]) (e_mod (e_int1m (e_fdivp (e_var 8) e_int) G.n_int) (e_var 3))) fun found37 => (b_nil (.s (.s (.s (.s (.s (.s (.s (.s (.n .nil))))))))))))))) fun r8 => (b_nil (.s (.s (.s (.s (.s (.s (.s (.n (.n .nil))))))))))))) fun r4 => (r_retOwn 6)))))
def m__law_says (told : Bool) (due : Bool) : Res Bool :=
  (if due then (Res.ok (decide (told = true))) else (Res.ok (decide (told = false))))
abbrev s__law_says : Stmt := topS 9
theorem sc__law_says : FnScope ["told", "due"] ["told", "due"] (defScope s__law_says) := ⟨rfl, rfl, rfl, by decide +kernel, rfl, by decide +kernel, by decide +kernel⟩
theorem ok__law_says {P : Program} {w : World} {K : PySem.W.Frag} {mg : Str → Option Value} {base : Heap} (G : Fx K mg) : FOk P w K mg base "_law_says" 1 (spOf K (asC (T := Bool) (asC (T := Bool) asN)) (fun u : Bool × Bool × Unit => m__law_says u.1 u.2.1)) := by
  obtain ⟨fd, F⟩ := G.d__law_says
  refine fok_data (ρ0 := fun u : Bool × Bool × Unit => [.val Bool u.1, .val Bool u.2.1]) F G.g__law_says sc__law_says (F.bindsN (ps := ["told", "due"]) fun _ _ _ _ _ _ us hl => match us, hl with | [_, _], _ => rfl) (by intro _; rfl) (by intro _; rfl) fun cdv A outer s H E C => ?_
  rintro ⟨told, due, ⟨⟩⟩
  show SR _ _ none [.val Bool told, .val Bool due] _ (retD Bool) (m__law_says told due)
  unfold m__law_says
  exact (r_ifp (t_val (e_var 1)) (r_ret (CJ.v (e_isBp (e_var 0) e_bool))) (r_ret (CJ.v (e_isBp (e_var 0) e_bool))))
def m__law_alike_r : Nat → PD → PD → Res Bool
  | 0, _, _ => .bad
  | n' + 1, told, due =>
  (if ((isTup due) || (isLst due)) then (if ((!decide ((isTup due) = (isTup told))) || (!decide ((isLst due) = (isLst told)))) then (Res.ok false) else (Res.bind (Res.bind (Len.len told) fun x1 => Res.bind (Len.len due) fun y2 => Res.ok (!decide (x1 = y2))) fun k11 => if k11 then (Res.ok false) else (thenR (Res.bind (Res.bind (Len.len due) fun x3 => guardR (inRange x3) (Res.ok (rng 0 x3))) fun z10 => forC (fun (r4 : Unit) at'5 => (Res.bind (Res.bind (Res.bind (idxD told at'5) fun a6 => Res.bind (idxD due at'5) fun a7 => m__law_alike_r n' a6 a7) fun x8 => Res.ok (!x8)) fun k9 => if k9 then liftC (Res.ok (Ctl.rt false)) else (Res.ok (Ctl.nx ())))) z10 ()) fun r4 => (Res.ok true)))) else (if (isNon due) then (Res.ok (isNon told)) else (if (isBl due) then (Res.bind (asB told) fun a12 => Res.bind (asB due) fun a13 => m__law_says a12 a13) else (if (isInt due) then (andM (m__law_is_whole told) (eqvD told due)) else (andM (Res.ok (isStr told)) (eqvD told due))))))
def m__law_alike (told : PD) (due : PD) : Res Bool := m__law_alike_r 8 told due
abbrev s__law_alike : Stmt := topS 10
theorem sc__law_alike : FnScope ["told", "due", "at"] ["told", "due"] (defScope s__law_alike) := ⟨rfl, rfl, rfl, by decide +kernel, rfl, by decide +kernel, by decide +kernel⟩
theorem okr__law_alike {P : Program} {w : World} {K : PySem.W.Frag} {mg : Str → Option Value} {base : Heap} (G : Fx K mg) : ∀ n, FOk P w K mg base "_law_alike" (n + 2) (spOf K (asC (T := PD) (asC (T := PD) asN)) (fun u : PD × PD × Unit => m__law_alike_r n u.1 u.2.1)) := by
  obtain ⟨fd, F⟩ := G.d__law_alike
  intro n
  induction n with
  | zero => exact fok_bad F G.g__law_alike (F.bindsN (ps := ["told", "due"]) fun _ _ _ _ _ _ us hl => match us, hl with | [_, _], _ => rfl) fun u => rfl
  | succ n' ih =>
  have h : FOk P w K mg base "_law_alike" ((n' + 2) + 1) (spOf K (asC (T := PD) (asC (T := PD) asN)) (fun u : PD × PD × Unit => m__law_alike_r (n' + 1) u.1 u.2.1)) := by
    refine fok_data (ρ0 := fun u : PD × PD × Unit => [.val PD u.1, .val PD u.2.1, .non]) F G.g__law_alike sc__law_alike (F.bindsN (ps := ["told", "due"]) fun _ _ _ _ _ _ us hl => match us, hl with | [_, _], _ => rfl) (by intro _; rfl) (by intro _; rfl) fun cdv A outer s H E C => ?_
    rintro ⟨told, due, ⟨⟩⟩
    show SR _ _ none [.val PD told, .val PD due, .non] _ (retD Bool) (m__law_alike_r (n' + 1) told due)
    unfold m__law_alike_r
    exact (r_ifp (TWJ.pt (tw_orp (t_val (e_isip (f := isTup) (hk := isTup_ok) (e_var 1) G.n_isinstance G.n_tuple)) (tw_or1 (t_val (e_isip (f := isLst) (hk := isLst_ok) (e_var 1) G.n_isinstance G.n_list))))) (r_ifp (TWJ.pt (tw_orp (CJ.t (e_nep (e_isip (f := isTup) (hk := isTup_ok) (e_var 1) G.n_isinstance G.n_tuple) (e_isip (f := isTup) (hk := isTup_ok) (e_var 0) G.n_isinstance G.n_tuple))) (tw_or1 (CJ.t (e_nep (e_isip (f := isLst) (hk := isLst_ok) (e_var 1) G.n_isinstance G.n_list) (e_isip (f := isLst) (hk := isLst_ok) (e_var 0) G.n_isinstance G.n_list)))))) (r_ret e_bool) (r_if (CJ.t (e_ne (e_lenp (e_var 0) G.n_len) (e_lenp (e_var 1) G.n_len))) (r_ret e_bool) (rc_cons (b := eb) (c_for (ρl := fun (r4 : Unit) => [.val PD told, .val PD due, .non]) (s0 := ()) C (i_range1 (e_lenp (e_var 1) G.n_len) G.n_range) (g_name 2 C.nd) (.s (.s (.n .nil))) (fun r4 at'5 => c_at [.val PD told, .val PD due, .val Int at'5] (c_if1 (t_not (t_val (e_call C ih (a_cons (e_ixDp (e_var 0) (e_var 2)) fun a6 => (a_cons (e_ixDp (e_var 1) (e_var 2)) fun a7 => a_nil)) (hk := by omega)))) (SR.cp (r_ret e_bool)) (c_nil (.s (.s (.n .nil))))))) fun r4 => (r_ret e_bool)))) (r_ifp (CJ.t (e_isNDp (e_var 1))) (r_ret (CJ.v (e_isNDp (e_var 0)))) (r_ifp (t_val (e_isip (f := isBl) (hk := isBl_ok) (e_var 1) G.n_isinstance G.n_bool)) (r_ret (e_call C (ok__law_says G) (a_cons (e_asBp (e_var 0)) fun a12 => (a_cons (e_asBp (e_var 1)) fun a13 => a_nil)) (hk := by omega))) (r_ifp (t_val (e_isip (f := isInt) (hk := isInt_ok) (e_var 1) G.n_isinstance G.n_int)) (r_ret (e_and (e_call C (ok__law_is_whole G) (a_consp (e_var 0) a_nil) (hk := by omega)) (e_and1 (CJ.v (e_eqvDp C (e_var 0) (e_var 1)))))) (r_ret (e_and (e_isip (f := isStr) (hk := isStr_ok) (e_var 0) G.n_isinstance G.n_str) (e_and1 (CJ.v (e_eqvDp C (e_var 0) (e_var 1))))))))))
  have e : n' + 1 + 2 = (n' + 2) + 1 := by omega
  rw [e]
  exact h
theorem ok__law_alike {P : Program} {w : World} {K : PySem.W.Frag} {mg : Str → Option Value} {base : Heap} (G : Fx K mg) : FOk P w K mg base "_law_alike" 10 (spOf K (asC (T := PD) (asC (T := PD) asN)) (fun u : PD × PD × Unit => m__law_alike u.1 u.2.1)) := okr__law_alike G 8
def m__law_common (a : Int) (b : Int) : Res Int :=
  (Res.bind (Res.ok ((a).natAbs : Int)) fun a1 => (Res.bind (Res.ok ((b).natAbs : Int)) fun b2 => (thenR (Res.bind (guardR (inRange 600) (Res.ok (rng 0 600))) fun z8 => forC (fun (r3 : Int × Int) turn4 => (if (decide (r3.2 = 0)) then liftC (Res.ok (Ctl.bk (r3.1, r3.2))) else (Res.bind (modM r3.1 r3.2) fun rest5 => (Res.bind (Res.ok r3.2) fun a6 => (Res.bind (Res.ok rest5) fun b7 => (Res.ok (Ctl.nx (a6, b7)))))))) z8 (a1, b2)) fun r3 => (Res.ok r3.1))))
abbrev s__law_common : Stmt := topS 11
theorem sc__law_common : FnScope ["a", "b", "turn", "rest"] ["a", "b"] (defScope s__law_common) := ⟨rfl, rfl, rfl, by decide +kernel, rfl, by decide +kernel, by decide +kernel⟩
theorem ok__law_common {P : Program} {w : World} {K : PySem.W.Frag} {mg : Str → Option Value} {base : Heap} (G : Fx K mg) : FOk P w K mg base "_law_common" 1 (spOf K (asC (T := Int) (asC (T := Int) asN)) (fun u : Int × Int × Unit => m__law_common u.1 u.2.1)) := by
  obtain ⟨fd, F⟩ := G.d__law_common
  refine fok_data (ρ0 := fun u : Int × Int × Unit => [.val Int u.1, .val Int u.2.1, .non, .non]) F G.g__law_common sc__law_common (F.bindsN (ps := ["a", "b"]) fun _ _ _ _ _ _ us hl => match us, hl with | [_, _], _ => rfl) (by intro _; rfl) (by intro _; rfl) fun cdv A outer s H E C => ?_
  rintro ⟨a, b, ⟨⟩⟩
  show SR _ _ none [.val Int a, .val Int b, .non, .non] _ (retD Int) (m__law_common a b)
  unfold m__law_common
  exact (r_cons (n_set 0 (n3 := fun a1 => [.val Int a1, .val Int b, .non, .non]) C.nd (e_absp (e_var 0) G.n_abs)) fun a1 => (r_cons (n_set 1 (n3 := fun b2 => [.val Int a1, .val Int b2, .non, .non]) C.nd (e_absp (e_var 1) G.n_abs)) fun b2 => (rc_cons (b := eb) (c_for (ρl := fun (r3 : Int × Int) => [.val Int r3.1, .val Int r3.2, .non, .non]) (s0 := (a1, b2)) C (i_range1p e_int G.n_range) (g_name 2 C.nd) (.s (.s (.n (.n .nil)))) (fun r3 turn4 => c_at [.val Int r3.1, .val Int r3.2, .val Int turn4, .non] (c_if1p (CJ.t (e_eqp (e_var 1) e_int)) (c_break (x := (r3.1, r3.2)) (.s (.s (.n (.n .nil))))) (c_cons (n_set 3 (n3 := fun rest5 => [.val Int r3.1, .val Int r3.2, .val Int turn4, .val Int rest5]) C.nd (e_modp (e_int1p (e_var 0) G.n_int) (e_var 1))) fun rest5 => (c_cons (n_set 0 (n3 := fun a6 => [.val Int a6, .val Int r3.2, .val Int turn4, .val Int rest5]) C.nd (e_var 1)) fun a6 => (c_cons (n_set 1 (n3 := fun b7 => [.val Int a6, .val Int b7, .val Int turn4, .val Int rest5]) C.nd (e_var 3)) fun b7 => (c_nil (.s (.s (.n (.n .nil))))))))))) fun r3 => (r_ret (e_var 0)))))
def m__law_number (digits : List Int) : Res Int :=
  (Res.bind (Res.ok 0) fun total1 => (Res.bind (Res.bind (Res.ok digits) fun z7 => forR (fun (r2 : Int) x3 => (Res.bind (Res.bind (mulM r2 10) fun x5 => Res.bind (Res.ok x3) fun y6 => Res.ok (x5 + y6)) fun total4 => (Res.ok total4))) z7 total1) fun r2 => (Res.ok r2)))
abbrev s__law_number : Stmt := topS 12
theorem sc__law_number : FnScope ["digits", "total", "x"] ["digits"] (defScope s__law_number) := ⟨rfl, rfl, rfl, by decide +kernel, rfl, by decide +kernel, by decide +kernel⟩
theorem ok__law_number {P : Program} {w : World} {K : PySem.W.Frag} {mg : Str → Option Value} {base : Heap} (G : Fx K mg) : FOk P w K mg base "_law_number" 1 (spOf K (asC (T := (List Int)) asN) (fun u : (List Int) × Unit => m__law_number u.1)) := by
  obtain ⟨fd, F⟩ := G.d__law_number
  refine fok_data (ρ0 := fun u : (List Int) × Unit => [.val (List Int) u.1, .non, .non]) F G.g__law_number sc__law_number (F.bindsN (ps := ["digits"]) fun _ _ _ _ _ _ us hl => match us, hl with | [_], _ => rfl) (by intro _; rfl) (by intro _; rfl) fun cdv A outer s H E C => ?_
  rintro ⟨digits, ⟨⟩⟩
  show SR _ _ none [.val (List Int) digits, .non, .non] _ (retD Int) (m__law_number digits)
  unfold m__law_number
  exact (r_cons (n_set 1 (n3 := fun total1 => [.val (List Int) digits, .val Int total1, .non]) C.nd e_int) fun total1 => (r_cons (n_for (ρl := fun (r2 : Int) => [.val (List Int) digits, .val Int r2, .non]) (s0 := total1) C (i_list (e_var 0)) (g_name 2 C.nd) (.s (.s (.n .nil))) (fun r2 x3 => b_at [.val (List Int) digits, .val Int r2, .val Int x3] (b_cons (n_set 1 (n3 := fun total4 => [.val (List Int) digits, .val Int total4, .val Int x3]) C.nd (e_add (e_mulp (e_var 1) e_int) (e_var 2))) fun total4 => (b_nil (.s (.s (.n .nil))))))) fun r2 => (r_ret (e_var 1))))
def m__law_ratio (first : Int) (second : Int) : Res (Int × Int) :=
  (Res.bind (m__law_common first second) fun common1 => (Res.bind (if decide (second < 0) then (Res.bind (Res.ok (-common1)) fun common3 => (Res.ok common3)) else (Res.ok common1)) fun r2 => (Res.bind (divM first r2) fun a4 => Res.bind (divM second r2) fun a5 => Res.ok (a4, a5))))
abbrev s__law_ratio : Stmt := topS 13
theorem sc__law_ratio : FnScope ["first", "second", "common"] ["first", "second"] (defScope s__law_ratio) := ⟨rfl, rfl, rfl, by decide +kernel, rfl, by decide +kernel, by decide +kernel⟩
theorem ok__law_ratio {P : Program} {w : World} {K : PySem.W.Frag} {mg : Str → Option Value} {base : Heap} (G : Fx K mg) : FOk P w K mg base "_law_ratio" 2 (spOf K (asC (T := Int) (asC (T := Int) asN)) (fun u : Int × Int × Unit => m__law_ratio u.1 u.2.1)) := by
  obtain ⟨fd, F⟩ := G.d__law_ratio
  refine fok_data (ρ0 := fun u : Int × Int × Unit => [.val Int u.1, .val Int u.2.1, .non]) F G.g__law_ratio sc__law_ratio (F.bindsN (ps := ["first", "second"]) fun _ _ _ _ _ _ us hl => match us, hl with | [_, _], _ => rfl) (by intro _; rfl) (by intro _; rfl) fun cdv A outer s H E C => ?_
  rintro ⟨first, second, ⟨⟩⟩
  show SR _ _ none [.val Int first, .val Int second, .non] _ (retD (Int × Int)) (m__law_ratio first second)
  unfold m__law_ratio
  exact (r_cons (n_set 2 (n3 := fun common1 => [.val Int first, .val Int second, .val Int common1]) C.nd (e_call C (ok__law_common G) (a_consp (e_var 0) (a_consp (e_var 1) a_nil)))) fun common1 => (r_cons (n_ifp (n := fun (r2 : Int) => [.val Int first, .val Int second, .val Int r2]) (CJ.t (e_ltp (e_var 1) e_int)) (b_cons (n_set 2 (n3 := fun common3 => [.val Int first, .val Int second, .val Int common3]) C.nd (e_negp (e_var 2))) fun common3 => (b_nil (.s (.s (.s .nil))))) (b_nil (.s (.s (.s .nil))))) fun r2 => (r_ret (e_tup (mk := (fun u => (u.1, u.2.1))) (a_cons (e_fdivp (e_var 0) (e_var 2)) fun a4 => (a_cons (e_fdivp (e_var 1) (e_var 2)) fun a5 => a_nil))))))
def m__law_lowered (row : List Int) : Res (List Int) :=
  (Res.bind (Res.ok 0) fun common1 => (Res.bind (Res.bind (Res.ok row) fun z5 => forR (fun (r2 : Int) x3 => (Res.bind (m__law_common r2 x3) fun common4 => (Res.ok common4))) z5 common1) fun r2 => (if (decide (r2 = 0)) then (Res.ok row) else (Res.bind (Res.ok row) fun z8 => lcX (fun _ => Res.ok true) (fun x7 => (divM x7 r2)) z8))))
abbrev s__law_lowered : Stmt := topS 14
theorem sc__law_lowered : FnScope ["row", "common", "x"] ["row"] (defScope s__law_lowered) := ⟨rfl, rfl, rfl, by decide +kernel, rfl, by decide +kernel, by decide +kernel⟩
theorem ok__law_lowered {P : Program} {w : World} {K : PySem.W.Frag} {mg : Str → Option Value} {base : Heap} (G : Fx K mg) : FOk P w K mg base "_law_lowered" 2 (spFr K (asC (T := (List Int)) asN) (fun u : (List Int) × Unit => m__law_lowered u.1)) := by
  obtain ⟨fd, F⟩ := G.d__law_lowered
  refine fok_fr (ρ0 := fun u : (List Int) × Unit => [.val (List Int) u.1, .non, .non]) F G.g__law_lowered sc__law_lowered (F.bindsN (ps := ["row"]) fun _ _ _ _ _ _ us hl => match us, hl with | [_], _ => rfl) (by intro _; rfl) (by intro _; rfl) fun cdv A outer s H E C => ?_
  rintro ⟨row, ⟨⟩⟩
  show SR _ _ none [.val (List Int) row, .non, .non] _ (retF Int) (m__law_lowered row)
  unfold m__law_lowered
  exact (r_cons (n_set 1 (n3 := fun common1 => [.val (List Int) row, .val Int common1, .non]) C.nd e_int) fun common1 => (r_cons (n_for (ρl := fun (r2 : Int) => [.val (List Int) row, .val Int r2, .non]) (s0 := common1) C (i_list (e_var 0)) (g_name 2 C.nd) (.s (.s (.n .nil))) (fun r2 x3 => b_at [.val (List Int) row, .val Int r2, .val Int x3] (b_cons (n_set 1 (n3 := fun common4 => [.val (List Int) row, .val Int common4, .val Int x3]) C.nd (e_call C (ok__law_common G) (a_consp (e_var 1) (a_consp (e_var 2) a_nil)))) fun common4 => (b_nil (.s (.s (.n .nil))))))) fun r2 => (r_ifp (CJ.t (e_eqp (e_var 1) e_int)) (r_retF (f_listofp (EG.lg (e_var 0)) G.n_list)) (r_retF (f_lc (ow := [(Str.ofString "x", 2)]) (ρw := [.val (List Int) row, .val Int r2, .non]) C (i_list (e_var 0)) (fun s H Cc cl fp => ⟨(g_name 2 C.blk.nd), fun _ => lc_none, fun x7 => e_at [.val (List Int) row, .val Int r2, .val Int x7] (e_fdivp (e_var 2) (e_var 1))⟩))))))
def m__law_neighbours (script : Scr) (shape : List Int) : Res (List (Int × Int)) :=
  (Res.bind (Res.ok (0, 1)) fun low1 => (Res.bind (Res.ok (1, 1)) fun high2 => (Res.bind (Res.bind (Res.bind (Res.bind (idxM shape 4) fun x3 => Res.bind (Res.ok 41) fun y4 => modM x3 y4) fun a5 => m__law_many script 4 a5 2) fun z12 => forR (fun (r6 : (Int × Int) × (Int × Int)) x7 => (Res.bind (Res.ok ((r6.1.1 + r6.2.1), (r6.1.2 + r6.2.2))) fun middle8 => (Res.bind (if (decide (x7 = 0)) then (Res.bind (Res.ok middle8) fun high10 => (Res.ok (r6.1, high10))) else (Res.bind (Res.ok middle8) fun low11 => (Res.ok (low11, r6.2)))) fun r9 => (Res.ok (r9.1, r9.2))))) z12 (low1, high2)) fun r6 => (Res.bind (Res.bind (Res.bind (Res.bind (idxM shape 5) fun x14 => Res.bind (Res.ok 21) fun y15 => modM x14 y15) fun a16 => m__law_many script 5 a16 10) fun a17 => m__law_number a17) fun moved13 => (Res.bind (Res.bind (Res.bind (Res.ok r6.1.1) fun x18 => Res.bind (mulM moved13 r6.1.2) fun y19 => Res.ok (x18 + y19)) fun a20 => Res.ok (a20, r6.1.2)) fun a24 => Res.bind (Res.bind (Res.bind (Res.ok r6.2.1) fun x21 => Res.bind (mulM moved13 r6.2.2) fun y22 => Res.ok (x21 + y22)) fun a23 => Res.ok (a23, r6.2.2)) fun a25 => Res.ok [a24, a25])))))
abbrev s__law_neighbours : Stmt := topS 15
theorem sc__law_neighbours : FnScope ["script", "shape", "low", "high", "x", "middle", "moved"] ["script", "shape"] (defScope s__law_neighbours) := ⟨rfl, rfl, rfl, by decide +kernel, rfl, by decide +kernel, by decide +kernel⟩
theorem ok__law_neighbours {P : Program} {w : World} {K : PySem.W.Frag} {mg : Str → Option Value} {base : Heap} (G : Fx K mg) : FOk P w K mg base "_law_neighbours" 3 (spFr K (asC (T := Scr) (asC (T := (List Int)) asN)) (fun u : Scr × (List Int) × Unit => m__law_neighbours u.1 u.2.1)) := by
  obtain ⟨fd, F⟩ := G.d__law_neighbours
  refine fok_fr (ρ0 := fun u : Scr × (List Int) × Unit => [.val Scr u.1, .val (List Int) u.2.1, .non, .non, .non, .non, .non]) F G.g__law_neighbours sc__law_neighbours (F.bindsN (ps := ["script", "shape"]) fun _ _ _ _ _ _ us hl => match us, hl with | [_, _], _ => rfl) (by intro _; rfl) (by intro _; rfl) fun cdv A outer s H E C => ?_
  rintro ⟨script, shape, ⟨⟩⟩
  show SR _ _ none [.val Scr script, .val (List Int) shape, .non, .non, .non, .non, .non] _ (retF (Int × Int)) (m__law_neighbours script shape)
  unfold m__law_neighbours
  exact (r_cons (n_set 2 (n3 := fun low1 => [.val Scr script, .val (List Int) shape, .val (Int × Int) low1, .non, .non, .non, .non]) C.nd (e_tup (mk := (fun u => (u.1, u.2.1))) (a_consp e_int (a_consp e_int a_nil)))) fun low1 => (r_cons (n_set 3 (n3 := fun high2 => [.val Scr script, .val (List Int) shape, .val (Int × Int) low1, .val (Int × Int) high2, .non, .non, .non]) C.nd (e_tup (mk := (fun u => (u.1, u.2.1))) (a_consp e_int (a_consp e_int a_nil)))) fun high2 => (r_cons (n_for (ρl := fun (r6 : (Int × Int) × (Int × Int)) => [.val Scr script, .val (List Int) shape, .val (Int × Int) r6.1, .val (Int × Int) r6.2, .non, .non, .non]) (s0 := (low1, high2)) C (i_list (FG.ej (f_call C (ok__law_many G) (a_consp (e_var 0) (a_consp e_int (a_cons (e_mod (e_int1m (e_ixp (EG.lg (e_var 1)) e_int) G.n_int) e_int) fun a5 => (a_consp e_int a_nil))))))) (g_name 4 C.nd) (.s (.s (.s (.s (.n (.n (.n .nil))))))) (fun r6 x7 => b_at [.val Scr script, .val (List Int) shape, .val (Int × Int) r6.1, .val (Int × Int) r6.2, .val Int x7, .non, .non] (b_cons (n_set 5 (n3 := fun middle8 => [.val Scr script, .val (List Int) shape, .val (Int × Int) r6.1, .val (Int × Int) r6.2, .val Int x7, .val (Int × Int) middle8, .non]) C.nd (e_tup (mk := (fun u => (u.1, u.2.1))) (a_consp (e_addp (e_plp (j := 0) (f := fun (x : (Int × Int)) => x.1) (e_var 2)) (e_plp (j := 0) (f := fun (x : (Int × Int)) => x.1) (e_var 3))) (a_consp (e_addp (e_plp (j := 1) (f := fun (x : (Int × Int)) => x.2) (e_var 2)) (e_plp (j := 1) (f := fun (x : (Int × Int)) => x.2) (e_var 3))) a_nil)))) fun middle8 => (b_cons (n_ifp (n := fun (r9 : (Int × Int) × (Int × Int)) => [.val Scr script, .val (List Int) shape, .val (Int × Int) r9.1, .val (Int × Int) r9.2, .val Int x7, .val (Int × Int) middle8, .non]) (CJ.t (e_eqp (e_var 4) e_int)) (b_cons (n_set 3 (n3 := fun high10 => [.val Scr script, .val (List Int) shape, .val (Int × Int) r6.1, .val (Int × Int) high10, .val Int x7, .val (Int × Int) middle8, .non]) C.nd (e_var 5)) fun high10 => (b_nil (.s (.s (.s (.s (.s (.s (.n .nil))))))))) (b_cons (n_set 2 (n3 := fun low11 => [.val Scr script, .val (List Int) shape, .val (Int × Int) low11, .val (Int × Int) r6.2, .val Int x7, .val (Int × Int) middle8, .non]) C.nd (e_var 5)) fun low11 => (b_nil (.s (.s (.s (.s (.s (.s (.n .nil)))))))))) fun r9 => (b_nil (.s (.s (.s (.s (.n (.n (.n .nil)))))))))))) fun r6 => (r_cons (n_set 6 (n3 := fun moved13 => [.val Scr script, .val (List Int) shape, .val (Int × Int) r6.1, .val (Int × Int) r6.2, .non, .non, .val Int moved13]) C.nd (e_call C (ok__law_number G) (a_cons (FG.ej (f_call C (ok__law_many G) (a_consp (e_var 0) (a_consp e_int (a_cons (e_mod (e_int1m (e_ixp (EG.lg (e_var 1)) e_int) G.n_int) e_int) fun a16 => (a_consp e_int a_nil)))))) fun a17 => a_nil))) fun moved13 => (r_retF (f_list (mk := fun u => [u.1, u.2.1]) (a_cons (e_tup (mk := (fun u => (u.1, u.2.1))) (a_cons (e_add (e_plp (j := 0) (f := fun (x : (Int × Int)) => x.1) (e_var 2)) (e_mulp (e_var 6) (e_plp (j := 1) (f := fun (x : (Int × Int)) => x.2) (e_var 2)))) fun a20 => (a_consp (e_plp (j := 1) (f := fun (x : (Int × Int)) => x.2) (e_var 2)) a_nil))) fun a24 => (a_cons (e_tup (mk := (fun u => (u.1, u.2.1))) (a_cons (e_add (e_plp (j := 0) (f := fun (x : (Int × Int)) => x.1) (e_var 3)) (e_mulp (e_var 6) (e_plp (j := 1) (f := fun (x : (Int × Int)) => x.2) (e_var 3)))) fun a23 => (a_consp (e_plp (j := 1) (f := fun (x : (Int × Int)) => x.2) (e_var 3)) a_nil))) fun a25 => a_nil))))))))
def m__law_lowest_right (first : Int) (second : Int) : Res Bool :=
  (Res.bind (m__law_ratio first second) fun due1 => (Res.bind (Res.bind (Res.bind (Res.bind (m_lowest first second) fun x2 => Res.ok (PD.mk (Dat.toD x2))) fun a3 => m__law_alike a3 (PD.mk (Dat.toD due1))) fun x4 => Res.ok (!x4)) fun k7 => if k7 then (Res.ok false) else (Res.bind (Res.bind (m_lowest due1.1 due1.2) fun x5 => Res.ok (PD.mk (Dat.toD x5))) fun a6 => m__law_alike a6 (PD.mk (Dat.toD due1)))))
abbrev s__law_lowest_right : Stmt := topS 16
theorem sc__law_lowest_right : FnScope ["first", "second", "due"] ["first", "second"] (defScope s__law_lowest_right) := ⟨rfl, rfl, rfl, by decide +kernel, rfl, by decide +kernel, by decide +kernel⟩
theorem ok__law_lowest_right {P : Program} {w : World} {K : PySem.W.Frag} {mg : Str → Option Value} {base : Heap} (G : Fx K mg) : FOk P w K mg base "_law_lowest_right" 11 (spOf K (asC (T := Int) (asC (T := Int) asN)) (fun u : Int × Int × Unit => m__law_lowest_right u.1 u.2.1)) := by
  obtain ⟨fd, F⟩ := G.d__law_lowest_right
  refine fok_data (ρ0 := fun u : Int × Int × Unit => [.val Int u.1, .val Int u.2.1, .non]) F G.g__law_lowest_right sc__law_lowest_right (F.bindsN (ps := ["first", "second"]) fun _ _ _ _ _ _ us hl => match us, hl with | [_, _], _ => rfl) (by intro _; rfl) (by intro _; rfl) fun cdv A outer s H E C => ?_
  rintro ⟨first, second, ⟨⟩⟩
  show SR _ _ none [.val Int first, .val Int second, .non] _ (retD Bool) (m__law_lowest_right first second)
  unfold m__law_lowest_right
  exact (r_cons (n_set 2 (n3 := fun due1 => [.val Int first, .val Int second, .val (Int × Int) due1]) C.nd (e_call C (ok__law_ratio G) (a_consp (e_var 0) (a_consp (e_var 1) a_nil)))) fun due1 => (r_if (t_not (t_val (e_call C (ok__law_alike G) (a_cons (e_toD (e_call C (ok_lowest G) (a_consp (e_var 0) (a_consp (e_var 1) a_nil)))) fun a3 => (a_consp (e_toDp (e_var 2)) a_nil))))) (r_ret e_bool) (r_ret (e_call C (ok__law_alike G) (a_cons (e_toD (e_call C (ok_lowest G) (a_consp (e_plp (j := 0) (f := fun (x : (Int × Int)) => x.1) (e_var 2)) (a_consp (e_plp (j := 1) (f := fun (x : (Int × Int)) => x.2) (e_var 2)) a_nil)))) fun a6 => (a_consp (e_toDp (e_var 2)) a_nil))))))
def m__law_compared (ratios : List (Int × Int)) : Res Bool :=
  (thenR (Res.bind (Res.ok ratios) fun z18 => forC (fun (r1 : Unit) one2 => (thenC (Res.bind (Res.ok ratios) fun z17 => forC (fun (r3 : Unit) two4 => (Res.bind (Res.bind (mulM one2.1 two4.2) fun x6 => Res.bind (mulM two4.1 one2.2) fun y7 => Res.ok (x6 - y7)) fun gap5 => (Res.bind (Res.ok 0) fun due8 => (Res.bind (if (decide (0 < gap5)) then (Res.bind (Res.ok 1) fun due10 => (Res.ok due10)) else (Res.ok due8)) fun r9 => (Res.bind (if decide (gap5 < 0) then (Res.bind (Res.ok (-1)) fun due12 => (Res.ok due12)) else (Res.ok r9)) fun r11 => (Res.bind (Res.bind (Res.bind (Res.bind (m_compare_ratios one2 two4) fun x13 => Res.ok (PD.mk (Dat.toD x13))) fun a14 => m__law_alike a14 (PD.mk (Dat.toD r11))) fun x15 => Res.ok (!x15)) fun k16 => if k16 then liftC (Res.ok (Ctl.rt false)) else (Res.ok (Ctl.nx ())))))))) z17 ()) fun r3 => (Res.ok (Ctl.nx ())))) z18 ()) fun r1 => (Res.ok true))
abbrev s__law_compared : Stmt := topS 17
theorem sc__law_compared : FnScope ["ratios", "one", "two", "gap", "due"] ["ratios"] (defScope s__law_compared) := ⟨rfl, rfl, rfl, by decide +kernel, rfl, by decide +kernel, by decide +kernel⟩
theorem ok__law_compared {P : Program} {w : World} {K : PySem.W.Frag} {mg : Str → Option Value} {base : Heap} (G : Fx K mg) : FOk P w K mg base "_law_compared" 11 (spOf K (asC (T := (List (Int × Int))) asN) (fun u : (List (Int × Int)) × Unit => m__law_compared u.1)) := by
  obtain ⟨fd, F⟩ := G.d__law_compared
  refine fok_data (ρ0 := fun u : (List (Int × Int)) × Unit => [.val (List (Int × Int)) u.1, .non, .non, .non, .non]) F G.g__law_compared sc__law_compared (F.bindsN (ps := ["ratios"]) fun _ _ _ _ _ _ us hl => match us, hl with | [_], _ => rfl) (by intro _; rfl) (by intro _; rfl) fun cdv A outer s H E C => ?_
  rintro ⟨ratios, ⟨⟩⟩
  show SR _ _ none [.val (List (Int × Int)) ratios, .non, .non, .non, .non] _ (retD Bool) (m__law_compared ratios)
  unfold m__law_compared
  exact (rc_cons (b := eb) (c_for (ρl := fun (r1 : Unit) => [.val (List (Int × Int)) ratios, .non, .non, .non, .non]) (s0 := ()) C (i_list (e_var 0)) (g_name 1 C.nd) (.s (.n (.n (.n (.n .nil))))) (fun r1 one2 => c_at [.val (List (Int × Int)) ratios, .val (Int × Int) one2, .non, .non, .non] (cc_cons (c_for (ρl := fun (r3 : Unit) => [.val (List (Int × Int)) ratios, .val (Int × Int) one2, .non, .non, .non]) (s0 := ()) C (i_list (e_var 0)) (g_name 2 C.nd) (.s (.s (.n (.n (.n .nil))))) (fun r3 two4 => c_at [.val (List (Int × Int)) ratios, .val (Int × Int) one2, .val (Int × Int) two4, .non, .non] (c_cons (n_set 3 (n3 := fun gap5 => [.val (List (Int × Int)) ratios, .val (Int × Int) one2, .val (Int × Int) two4, .val Int gap5, .non]) C.nd (e_sub (e_mulp (e_plp (j := 0) (f := fun (x : (Int × Int)) => x.1) (e_var 1)) (e_plp (j := 1) (f := fun (x : (Int × Int)) => x.2) (e_var 2))) (e_mulp (e_plp (j := 0) (f := fun (x : (Int × Int)) => x.1) (e_var 2)) (e_plp (j := 1) (f := fun (x : (Int × Int)) => x.2) (e_var 1))))) fun gap5 => (c_cons (n_set 4 (n3 := fun due8 => [.val (List (Int × Int)) ratios, .val (Int × Int) one2, .val (Int × Int) two4, .val Int gap5, .val Int due8]) C.nd e_int) fun due8 => (c_cons (n_ifp (n := fun (r9 : Int) => [.val (List (Int × Int)) ratios, .val (Int × Int) one2, .val (Int × Int) two4, .val Int gap5, .val Int r9]) (CJ.t (e_gtp (e_var 3) e_int)) (b_cons (n_set 4 (n3 := fun due10 => [.val (List (Int × Int)) ratios, .val (Int × Int) one2, .val (Int × Int) two4, .val Int gap5, .val Int due10]) C.nd e_int) fun due10 => (b_nil (.s (.s (.s (.s (.s .nil))))))) (b_nil (.s (.s (.s (.s (.s .nil))))))) fun r9 => (c_cons (n_ifp (n := fun (r11 : Int) => [.val (List (Int × Int)) ratios, .val (Int × Int) one2, .val (Int × Int) two4, .val Int gap5, .val Int r11]) (CJ.t (e_ltp (e_var 3) e_int)) (b_cons (n_set 4 (n3 := fun due12 => [.val (List (Int × Int)) ratios, .val (Int × Int) one2, .val (Int × Int) two4, .val Int gap5, .val Int due12]) C.nd (e_negp e_int)) fun due12 => (b_nil (.s (.s (.s (.s (.s .nil))))))) (b_nil (.s (.s (.s (.s (.s .nil))))))) fun r11 => (c_if1 (t_not (t_val (e_call C (ok__law_alike G) (a_cons (e_toD (e_call C (ok_compare_ratios G) (a_consp (e_var 1) (a_consp (e_var 2) a_nil)))) fun a14 => (a_consp (e_toDp (e_var 4)) a_nil))))) (SR.cp (r_ret e_bool)) (c_nil (.s (.s (.n (.n (.n .nil))))))))))))) fun r3 => (c_nil (.s (.n (.n (.n (.n .nil))))))))) fun r1 => (r_ret e_bool))
def m__law_row_right (row : List Int) : Res Bool :=
  (Res.bind (m__law_lowered row) fun due1 => (Res.bind (Res.ok row) fun handed2 => (Res.bind (m_lowest_row handed2) fun told3 => (Res.bind (orM (Res.bind ((m__law_alike (PD.mk (Dat.toD told3)) (PD.mk (Dat.toD due1))).quiet) fun x4 => Res.ok (!x4)) (Res.ok ((!Dat.dec handed2 row)))) fun k9 => if k9 then (Res.ok false) else (Res.bind (Res.bind (Res.ok 7) fun y6 => appM told3 y6) fun told5 => (andM (Res.bind (Res.bind (m_lowest_row handed2) fun x7 => Res.ok (PD.mk (Dat.toD x7))) fun a8 => m__law_alike a8 (PD.mk (Dat.toD due1))) (Res.ok (Dat.dec handed2 row))))))))
abbrev s__law_row_right : Stmt := topS 18
theorem sc__law_row_right : FnScope ["row", "due", "handed", "told"] ["row"] (defScope s__law_row_right) := ⟨rfl, rfl, rfl, by decide +kernel, rfl, by decide +kernel, by decide +kernel⟩
theorem ok__law_row_right {P : Program} {w : World} {K : PySem.W.Frag} {mg : Str → Option Value} {base : Heap} (G : Fx K mg) : FOk P w K mg base "_law_row_right" 11 (spOf K (asC (T := (List Int)) asN) (fun u : (List Int) × Unit => m__law_row_right u.1)) := by
  obtain ⟨fd, F⟩ := G.d__law_row_right
  refine fok_data (ρ0 := fun u : (List Int) × Unit => [.val (List Int) u.1, .non, .non, .non]) F G.g__law_row_right sc__law_row_right (F.bindsN (ps := ["row"]) fun _ _ _ _ _ _ us hl => match us, hl with | [_], _ => rfl) (by intro _; rfl) (by intro _; rfl) fun cdv A outer s H E C => ?_
  rintro ⟨row, ⟨⟩⟩
  show SR _ _ none [.val (List Int) row, .non, .non, .non] _ (retD Bool) (m__law_row_right row)
  unfold m__law_row_right
  exact (r_cons (n_set 1 (n3 := fun due1 => [.val (List Int) row, .val (List Int) due1, .non, .non]) C.nd (FG.ej (f_call C (ok__law_lowered G) (a_consp (e_var 0) a_nil)))) fun due1 => (r_cons (n_set 2 (n3 := fun handed2 => [.val (List Int) row, .val (List Int) due1, .val (List Int) handed2, .non]) C.nd (FG.ej (f_listofp (EG.lg (e_var 0)) G.n_list))) fun handed2 => (r_cons (n_setF 3 (n3 := fun told3 => [.val (List Int) row, .val (List Int) due1, .val (List Int) handed2, .own Int none told3]) C.nd (f_call C (ok_lowest_row G) (a_consp (e_var 2) a_nil))) fun told3 => (r_if (TWJ.pt (tw_or (t_not (t_val (EG.flat (e_callb C (ok__law_alike G) (a_consp (e_toDp (e_own 3)) (a_consp (EG.borrow (e_toDp (e_var 1))) a_nil)))))) (tw_or1 (CJ.t (e_nedT C (e_var 2) (e_var 0)))))) (r_ret e_bool) (r_cons (n_app 3 (n3 := fun told5 => [.val (List Int) row, .val (List Int) due1, .val (List Int) handed2, .own Int none told5]) e_int) fun told5 => (r_ret (e_and (e_call C (ok__law_alike G) (a_cons (e_toD (FG.ej (f_call C (ok_lowest_row G) (a_consp (e_var 2) a_nil)))) fun a8 => (a_consp (e_toDp (e_var 1)) a_nil))) (e_and1 (CJ.v (e_eqdT C (e_var 2) (e_var 0)))))))))))
def m__law_row (script : Scr) (shape : List Int) (common : Int) : Res (List Int) :=
  (Res.bind (Res.bind (idxM shape 6) fun x2 => Res.bind (Res.ok 10) fun y3 => modM x2 y3) fun many1 => (Res.bind (Res.bind (Res.bind (Res.bind (idxM shape 7) fun x4 => Res.bind (Res.ok 8) fun y5 => modM x4 y5) fun x6 => Res.bind (Res.ok 3) fun y7 => Res.ok (decide (x6 = y7))) fun k10 => if k10 then (Res.bind (Res.ok 16) fun many9 => (Res.ok many9)) else (Res.ok many1)) fun r8 => (Res.bind (Res.bind (Res.ok [1, 3, 1000]) fun x14 => Res.bind (Res.bind (idxM shape 8) fun x12 => Res.bind (Res.ok 3) fun y13 => modM x12 y13) fun y15 => idxM x14 y15) fun wide11 => (Res.bind (Res.bind (Res.bind (mulM 2 wide11) fun x16 => Res.bind (Res.ok 1) fun y17 => Res.ok (x16 + y17)) fun a18 => m__law_many script 6 r8 a18) fun z21 => lcX (fun _ => Res.ok true) (fun x20 => (mulM (x20 - wide11) common)) z21))))
abbrev s__law_row : Stmt := topS 19
theorem sc__law_row : FnScope ["script", "shape", "common", "many", "wide", "x"] ["script", "shape", "common"] (defScope s__law_row) := ⟨rfl, rfl, rfl, by decide +kernel, rfl, by decide +kernel, by decide +kernel⟩
theorem ok__law_row {P : Program} {w : World} {K : PySem.W.Frag} {mg : Str → Option Value} {base : Heap} (G : Fx K mg) : FOk P w K mg base "_law_row" 3 (spFr K (asC (T := Scr) (asC (T := (List Int)) (asC (T := Int) asN))) (fun u : Scr × (List Int) × Int × Unit => m__law_row u.1 u.2.1 u.2.2.1)) := by
  obtain ⟨fd, F⟩ := G.d__law_row
  refine fok_fr (ρ0 := fun u : Scr × (List Int) × Int × Unit => [.val Scr u.1, .val (List Int) u.2.1, .val Int u.2.2.1, .non, .non, .non]) F G.g__law_row sc__law_row (F.bindsN (ps := ["script", "shape", "common"]) fun _ _ _ _ _ _ us hl => match us, hl with | [_, _, _], _ => rfl) (by intro _; rfl) (by intro _; rfl) fun cdv A outer s H E C => ?_
  rintro ⟨script, shape, common, ⟨⟩⟩
  show SR _ _ none [.val Scr script, .val (List Int) shape, .val Int common, .non, .non, .non] _ (retF Int) (m__law_row script shape common)
  unfold m__law_row
  exact (r_cons (n_set 3 (n3 := fun many1 => [.val Scr script, .val (List Int) shape, .val Int common, .val Int many1, .non, .non]) C.nd (e_mod (e_int1m (e_ixp (EG.lg (e_var 1)) e_int) G.n_int) e_int)) fun many1 => (r_cons (n_if (n := fun (r8 : Int) => [.val Scr script, .val (List Int) shape, .val Int common, .val Int r8, .non, .non]) (CJ.t (e_eq (e_mod (e_int1m (e_ixp (EG.lg (e_var 1)) e_int) G.n_int) e_int) e_int)) (b_cons (n_set 3 (n3 := fun many9 => [.val Scr script, .val (List Int) shape, .val Int common, .val Int many9, .non, .non]) C.nd e_int) fun many9 => (b_nil (.s (.s (.s (.s (.n (.n .nil)))))))) (b_nil (.s (.s (.s (.s (.n (.n .nil)))))))) fun r8 => (r_cons (n_set 4 (n3 := fun wide11 => [.val Scr script, .val (List Int) shape, .val Int common, .val Int r8, .val Int wide11, .non]) C.nd (e_ix (FG.lg (f_list (mk := fun u => [u.1, u.2.1, u.2.2.1]) (a_consp e_int (a_consp e_int (a_consp e_int a_nil))))) (e_mod (e_int1m (e_ixp (EG.lg (e_var 1)) e_int) G.n_int) e_int))) fun wide11 => (r_retF (f_lc (ow := [(Str.ofString "x", 5)]) (ρw := [.val Scr script, .val (List Int) shape, .val Int common, .val Int r8, .val Int wide11, .non]) C (i_list (FG.ej (f_call C (ok__law_many G) (a_consp (e_var 0) (a_consp e_int (a_consp (e_var 3) (a_cons (e_add (e_mulp e_int (e_var 4)) e_int) fun a18 => a_nil))))))) (fun s H Cc cl fp => ⟨(g_name 5 C.blk.nd), fun _ => lc_none, fun x20 => e_at [.val Scr script, .val (List Int) shape, .val Int common, .val Int r8, .val Int wide11, .val Int x20] (e_mulp (e_subp (e_var 5) (e_var 4)) (e_var 2))⟩))))))
def m_law (script : Scr) : Res Bool :=
  (Res.bind (m__law_many script 0 10 2520) fun shape1 => (Res.bind (Res.bind (Res.bind (Res.bind (idxM shape1 0) fun x3 => Res.bind (Res.ok 31) fun y4 => modM x3 y4) fun a5 => m__law_many script 1 a5 10) fun a6 => m__law_number a6) fun first2 => (Res.bind (Res.bind (Res.ok 1) fun x12 => Res.bind (Res.bind (Res.bind (Res.bind (idxM shape1 1) fun x8 => Res.bind (Res.ok 31) fun y9 => modM x8 y9) fun a10 => m__law_many script 2 a10 10) fun a11 => m__law_number a11) fun y13 => Res.ok (if y13 > x12 then y13 else x12)) fun second7 => (Res.bind (Res.bind (Res.ok 1) fun x19 => Res.bind (Res.bind (Res.bind (Res.bind (idxM shape1 2) fun x15 => Res.bind (Res.ok 31) fun y16 => modM x15 y16) fun a17 => m__law_many script 3 a17 10) fun a18 => m__law_number a18) fun y20 => Res.ok (if y20 > x19 then y20 else x19)) fun common14 => (Res.bind (Res.bind (Res.bind (Res.bind (idxM shape1 3) fun x21 => Res.bind (Res.ok 2) fun y22 => modM x21 y22) fun x23 => Res.bind (Res.ok 1) fun y24 => Res.ok (decide (x23 = y24))) fun k27 => if k27 then (Res.bind (Res.ok (-first2)) fun first26 => (Res.ok first26)) else (Res.ok first2)) fun r25 => (Res.bind (Res.bind (Res.bind (Res.bind (Res.bind (idxM shape1 3) fun x28 => Res.bind (Res.ok 2) fun y29 => divM x28 y29) fun x30 => Res.bind (Res.ok 2) fun y31 => modM x30 y31) fun x32 => Res.bind (Res.ok 1) fun y33 => Res.ok (decide (x32 = y33))) fun k36 => if k36 then (Res.bind (Res.ok (-second7)) fun second35 => (Res.ok second35)) else (Res.ok second7)) fun r34 => (Res.bind (Res.bind (Res.bind (mulM r25 common14) fun a38 => Res.bind (mulM r34 common14) fun a39 => Res.ok (a38, a39)) fun a41 => Res.bind (Res.bind (mulM r34 common14) fun a40 => Res.ok (a40, common14)) fun a42 => Res.ok [a41, a42, (r25, (-r34)), (0, r34), (0, (-7))]) fun pairs37 => (Res.bind (catM pairs37 [(r25, 1), (r25, (-1)), (r34, r34), (r34, (-r34)), (common14, (1 + common14)), (6, (-4))]) fun pairs43 => (thenR (Res.bind (Res.ok pairs43) fun z48 => forC (fun (r44 : Unit) pair45 => (Res.bind (Res.bind (m__law_lowest_right pair45.1 pair45.2) fun x46 => Res.ok (!x46)) fun k47 => if k47 then liftC (Res.ok (Ctl.rt false)) else (Res.ok (Ctl.nx ())))) z48 ()) fun r44 => (Res.bind (Res.bind (powM 10 24) fun x50 => Res.bind (Res.ok common14) fun y51 => Res.ok (x50 + y51)) fun great49 => (Res.bind (Res.bind (m__law_ratio r25 r34) fun a53 => Res.bind (m__law_ratio r34 common14) fun a54 => Res.ok [a53, a54, (0, 1), (great49, (great49 + 1)), ((great49 + 1), (great49 + 2))]) fun ratios52 => (Res.bind (Res.bind (Res.ok ratios52) fun x56 => Res.bind (m__law_neighbours script shape1) fun y57 => catM x56 y57) fun ratios55 => (Res.bind (Res.bind (Res.bind (Res.bind (Res.ok ratios55) fun x61 => Res.bind (Res.bind (Res.ok ratios55) fun z60 => lcX (fun _ => Res.ok true) (fun ratio59 => (Res.ok ((-ratio59.1), ratio59.2))) z60) fun y62 => catM x61 y62) fun a63 => m__law_compared a63) fun x64 => Res.ok (!x64)) fun k73 => if k73 then (Res.ok false) else (Res.bind (m__law_row script shape1 common14) fun row65 => (thenR (Res.bind (Res.bind (catM row65 [0]) fun a66 => Res.bind (catM row65 [1]) fun a67 => Res.ok [row65, a66, a67, (cut row65 none (some 1)), ([] : List Int), [0], [0, 0, 0], [(-5)], [0, 0, (-5)], [(-common14), common14], [4, (-6), 0, 10]]) fun z72 => forC (fun (r68 : Unit) one69 => (Res.bind (Res.bind (m__law_row_right one69) fun x70 => Res.ok (!x70)) fun k71 => if k71 then liftC (Res.ok (Ctl.rt false)) else (Res.ok (Ctl.nx ())))) z72 ()) fun r68 => (Res.ok true))))))))))))))))
abbrev s_law : Stmt := topS 20
theorem sc_law : FnScope ["script", "shape", "first", "second", "common", "pairs", "pair", "great", "ratios", "row", "one", "ratio"] ["script"] (defScope s_law) := ⟨rfl, rfl, rfl, by decide +kernel, rfl, by decide +kernel, by decide +kernel⟩
theorem okL_law {P : Program} {w : World} {K : PySem.W.Frag} {mg : Str → Option Value} (G : Fx K mg) : ∃ fd, (∀ (s : Shared) (u : Value), BindsTo s fd ⟨[u], []⟩ [("script", u)]) ∧ ∀ base : Heap, FnOk P w K mg base (CX P w) 12 (He.ga K "law") fd ["script"] (spOf K (asC (T := Scr) asN) (fun u : Scr × Unit => m_law u.1)) := by
  obtain ⟨fd, F⟩ := G.d_law
  have b := FunD.bindsA (ps := ["script"]) F fun _ _ _ _ _ _ us hl => match us, hl with | [_], _ => rfl
  refine ⟨fd, fun s v => b s [v] rfl, fun base => ?_⟩
  refine fn_data (ρ0 := fun u : Scr × Unit => [.val Scr u.1, .non, .non, .non, .non, .non, .non, .non, .non, .non, .non, .non]) F sc_law (by intro _; rfl) (by intro _; rfl) fun cdv A outer s H E C => ?_
  rintro ⟨script, ⟨⟩⟩
  show SR _ _ none [.val Scr script, .non, .non, .non, .non, .non, .non, .non, .non, .non, .non, .non] _ (retD Bool) (m_law script)
  unfold m_law
  exact (r_cons (n_set 1 (n3 := fun shape1 => [.val Scr script, .val (List Int) shape1, .non, .non, .non, .non, .non, .non, .non, .non, .non, .non]) C.nd (FG.ej (f_call C (ok__law_many G) (a_consp (e_var 0) (a_consp e_int (a_consp e_int (a_consp e_int a_nil))))))) fun shape1 => (r_cons (n_set 2 (n3 := fun first2 => [.val Scr script, .val (List Int) shape1, .val Int first2, .non, .non, .non, .non, .non, .non, .non, .non, .non]) C.nd (e_call C (ok__law_number G) (a_cons (FG.ej (f_call C (ok__law_many G) (a_consp (e_var 0) (a_consp e_int (a_cons (e_mod (e_int1m (e_ixp (EG.lg (e_var 1)) e_int) G.n_int) e_int) fun a5 => (a_consp e_int a_nil)))))) fun a6 => a_nil))) fun first2 => (r_cons (n_set 3 (n3 := fun second7 => [.val Scr script, .val (List Int) shape1, .val Int first2, .val Int second7, .non, .non, .non, .non, .non, .non, .non, .non]) C.nd (e_max2 C.calm e_int (e_call C (ok__law_number G) (a_cons (FG.ej (f_call C (ok__law_many G) (a_consp (e_var 0) (a_consp e_int (a_cons (e_mod (e_int1m (e_ixp (EG.lg (e_var 1)) e_int) G.n_int) e_int) fun a10 => (a_consp e_int a_nil)))))) fun a11 => a_nil)) G.n_max)) fun second7 => (r_cons (n_set 4 (n3 := fun common14 => [.val Scr script, .val (List Int) shape1, .val Int first2, .val Int second7, .val Int common14, .non, .non, .non, .non, .non, .non, .non]) C.nd (e_max2 C.calm e_int (e_call C (ok__law_number G) (a_cons (FG.ej (f_call C (ok__law_many G) (a_consp (e_var 0) (a_consp e_int (a_cons (e_mod (e_int1m (e_ixp (EG.lg (e_var 1)) e_int) G.n_int) e_int) fun a17 => (a_consp e_int a_nil)))))) fun a18 => a_nil)) G.n_max)) fun common14 => (r_cons (n_if (n := fun (r25 : Int) => [.val Scr script, .val (List Int) shape1, .val Int r25, .val Int second7, .val Int common14, .non, .non, .non, .non, .non, .non, .non]) (CJ.t (e_eq (e_mod (e_int1m (e_ixp (EG.lg (e_var 1)) e_int) G.n_int) e_int) e_int)) (b_cons (n_set 2 (n3 := fun first26 => [.val Scr script, .val (List Int) shape1, .val Int first26, .val Int second7, .val Int common14, .non, .non, .non, .non, .non, .non, .non]) C.nd (e_negp (e_var 2))) fun first26 => (b_nil (.s (.s (.s (.s (.s (.n (.n (.n (.n (.n (.n (.n .nil)))))))))))))) (b_nil (.s (.s (.s (.s (.s (.n (.n (.n (.n (.n (.n (.n .nil)))))))))))))) fun r25 => (r_cons (n_if (n := fun (r34 : Int) => [.val Scr script, .val (List Int) shape1, .val Int r25, .val Int r34, .val Int common14, .non, .non, .non, .non, .non, .non, .non]) (CJ.t (e_eq (e_mod (e_int1m (e_fdiv (e_ixp (EG.lg (e_var 1)) e_int) e_int) G.n_int) e_int) e_int)) (b_cons (n_set 3 (n3 := fun second35 => [.val Scr script, .val (List Int) shape1, .val Int r25, .val Int second35, .val Int common14, .non, .non, .non, .non, .non, .non, .non]) C.nd (e_negp (e_var 3))) fun second35 => (b_nil (.s (.s (.s (.s (.s (.n (.n (.n (.n (.n (.n (.n .nil)))))))))))))) (b_nil (.s (.s (.s (.s (.s (.n (.n (.n (.n (.n (.n (.n .nil)))))))))))))) fun r34 => (r_cons (n_set 5 (n3 := fun pairs37 => [.val Scr script, .val (List Int) shape1, .val Int r25, .val Int r34, .val Int common14, .val (List (Int × Int)) pairs37, .non, .non, .non, .non, .non, .non]) C.nd (FG.ej (f_list (mk := fun u => [u.1, u.2.1, u.2.2.1, u.2.2.2.1, u.2.2.2.2.1]) (a_cons (e_tup (mk := (fun u => (u.1, u.2.1))) (a_cons (e_mulp (e_var 2) (e_var 4)) fun a38 => (a_cons (e_mulp (e_var 3) (e_var 4)) fun a39 => a_nil))) fun a41 => (a_cons (e_tup (mk := (fun u => (u.1, u.2.1))) (a_cons (e_mulp (e_var 3) (e_var 4)) fun a40 => (a_consp (e_var 4) a_nil))) fun a42 => (a_consp (e_tup (mk := (fun u => (u.1, u.2.1))) (a_consp (e_var 2) (a_consp (e_negp (e_var 3)) a_nil))) (a_consp (e_tup (mk := (fun u => (u.1, u.2.1))) (a_consp e_int (a_consp (e_var 3) a_nil))) (a_consp (e_tup (mk := (fun u => (u.1, u.2.1))) (a_consp e_int (a_consp (e_negp e_int) a_nil))) a_nil)))))))) fun pairs37 => (r_cons (n_set 5 (n3 := fun pairs43 => [.val Scr script, .val (List Int) shape1, .val Int r25, .val Int r34, .val Int common14, .val (List (Int × Int)) pairs43, .non, .non, .non, .non, .non, .non]) C.nd (FG.ej (f_catp (EG.lg (e_var 5)) (FG.lg (f_list (mk := fun u => [u.1, u.2.1, u.2.2.1, u.2.2.2.1, u.2.2.2.2.1, u.2.2.2.2.2.1]) (a_consp (e_tup (mk := (fun u => (u.1, u.2.1))) (a_consp (e_var 2) (a_consp e_int a_nil))) (a_consp (e_tup (mk := (fun u => (u.1, u.2.1))) (a_consp (e_var 2) (a_consp (e_negp e_int) a_nil))) (a_consp (e_tup (mk := (fun u => (u.1, u.2.1))) (a_consp (e_var 3) (a_consp (e_var 3) a_nil))) (a_consp (e_tup (mk := (fun u => (u.1, u.2.1))) (a_consp (e_var 3) (a_consp (e_negp (e_var 3)) a_nil))) (a_consp (e_tup (mk := (fun u => (u.1, u.2.1))) (a_consp (e_var 4) (a_consp (e_addp e_int (e_var 4)) a_nil))) (a_consp (e_tup (mk := (fun u => (u.1, u.2.1))) (a_consp e_int (a_consp (e_negp e_int) a_nil))) a_nil))))))))))) fun pairs43 => (rc_cons (b := eb) (c_for (ρl := fun (r44 : Unit) => [.val Scr script, .val (List Int) shape1, .val Int r25, .val Int r34, .val Int common14, .val (List (Int × Int)) pairs43, .non, .non, .non, .non, .non, .non]) (s0 := ()) C (i_list (e_var 5)) (g_name 6 C.nd) (.s (.s (.s (.s (.s (.s (.n (.n (.n (.n (.n (.n .nil)))))))))))) (fun r44 pair45 => c_at [.val Scr script, .val (List Int) shape1, .val Int r25, .val Int r34, .val Int common14, .val (List (Int × Int)) pairs43, .val (Int × Int) pair45, .non, .non, .non, .non, .non] (c_if1 (t_not (t_val (e_call C (ok__law_lowest_right G) (a_consp (e_plp (j := 0) (f := fun (x : (Int × Int)) => x.1) (e_var 6)) (a_consp (e_plp (j := 1) (f := fun (x : (Int × Int)) => x.2) (e_var 6)) a_nil))))) (SR.cp (r_ret e_bool)) (c_nil (.s (.s (.s (.s (.s (.s (.n (.n (.n (.n (.n (.n .nil)))))))))))))))) fun r44 => (r_cons (n_set 7 (n3 := fun great49 => [.val Scr script, .val (List Int) shape1, .val Int r25, .val Int r34, .val Int common14, .val (List (Int × Int)) pairs43, .non, .val Int great49, .non, .non, .non, .non]) C.nd (e_add (e_powp e_int e_int) (e_var 4))) fun great49 => (r_cons (n_set 8 (n3 := fun ratios52 => [.val Scr script, .val (List Int) shape1, .val Int r25, .val Int r34, .val Int common14, .val (List (Int × Int)) pairs43, .non, .val Int great49, .val (List (Int × Int)) ratios52, .non, .non, .non]) C.nd (FG.ej (f_list (mk := fun u => [u.1, u.2.1, u.2.2.1, u.2.2.2.1, u.2.2.2.2.1]) (a_cons (e_call C (ok__law_ratio G) (a_consp (e_var 2) (a_consp (e_var 3) a_nil))) fun a53 => (a_cons (e_call C (ok__law_ratio G) (a_consp (e_var 3) (a_consp (e_var 4) a_nil))) fun a54 => (a_consp (e_tup (mk := (fun u => (u.1, u.2.1))) (a_consp e_int (a_consp e_int a_nil))) (a_consp (e_tup (mk := (fun u => (u.1, u.2.1))) (a_consp (e_var 7) (a_consp (e_addp (e_var 7) e_int) a_nil))) (a_consp (e_tup (mk := (fun u => (u.1, u.2.1))) (a_consp (e_addp (e_var 7) e_int) (a_consp (e_addp (e_var 7) e_int) a_nil))) a_nil)))))))) fun ratios52 => (r_cons (n_set 8 (n3 := fun ratios55 => [.val Scr script, .val (List Int) shape1, .val Int r25, .val Int r34, .val Int common14, .val (List (Int × Int)) pairs43, .non, .val Int great49, .val (List (Int × Int)) ratios55, .non, .non, .non]) C.nd (FG.ej (f_catm (EG.lg (e_var 8)) (FG.lg (f_call C (ok__law_neighbours G) (a_consp (e_var 0) (a_consp (e_var 1) a_nil))))))) fun ratios55 => (r_if (t_not (t_val (e_call C (ok__law_compared G) (a_cons (FG.ej (f_catm (EG.lg (e_var 8)) (FG.lg (f_lc (ow := [(Str.ofString "ratio", 11)]) (ρw := [.val Scr script, .val (List Int) shape1, .val Int r25, .val Int r34, .val Int common14, .val (List (Int × Int)) pairs43, .non, .val Int great49, .val (List (Int × Int)) ratios55, .non, .non, .non]) C (i_list (e_var 8)) (fun s H Cc cl fp => ⟨(g_name 11 C.blk.nd), fun _ => lc_none, fun ratio59 => e_at [.val Scr script, .val (List Int) shape1, .val Int r25, .val Int r34, .val Int common14, .val (List (Int × Int)) pairs43, .non, .val Int great49, .val (List (Int × Int)) ratios55, .non, .non, .val (Int × Int) ratio59] (e_tup (mk := (fun u => (u.1, u.2.1))) (a_consp (e_negp (e_plp (j := 0) (f := fun (x : (Int × Int)) => x.1) (e_var 11))) (a_consp (e_plp (j := 1) (f := fun (x : (Int × Int)) => x.2) (e_var 11)) a_nil)))⟩))))) fun a63 => a_nil)))) (r_ret e_bool) (r_cons (n_set 9 (n3 := fun row65 => [.val Scr script, .val (List Int) shape1, .val Int r25, .val Int r34, .val Int common14, .val (List (Int × Int)) pairs43, .non, .val Int great49, .val (List (Int × Int)) ratios55, .val (List Int) row65, .non, .non]) C.nd (FG.ej (f_call C (ok__law_row G) (a_consp (e_var 0) (a_consp (e_var 1) (a_consp (e_var 4) a_nil)))))) fun row65 => (rc_cons (b := eb) (c_for (ρl := fun (r68 : Unit) => [.val Scr script, .val (List Int) shape1, .val Int r25, .val Int r34, .val Int common14, .val (List (Int × Int)) pairs43, .non, .val Int great49, .val (List (Int × Int)) ratios55, .val (List Int) row65, .non, .non]) (s0 := ()) C (i_list (FG.ej (f_list (mk := fun u => [u.1, u.2.1, u.2.2.1, u.2.2.2.1, u.2.2.2.2.1, u.2.2.2.2.2.1, u.2.2.2.2.2.2.1, u.2.2.2.2.2.2.2.1, u.2.2.2.2.2.2.2.2.1, u.2.2.2.2.2.2.2.2.2.1, u.2.2.2.2.2.2.2.2.2.2.1]) (a_consp (e_var 9) (a_cons (FG.ej (f_catp (EG.lg (e_var 9)) (FG.lg (f_list (mk := fun u => [u.1]) (a_consp e_int a_nil))))) fun a66 => (a_cons (FG.ej (f_catp (EG.lg (e_var 9)) (FG.lg (f_list (mk := fun u => [u.1]) (a_consp e_int a_nil))))) fun a67 => (a_consp (FG.ej (f_slicep (EG.lg (e_var 9)) o_none (o_somep e_int))) (a_consp (FG.ej (f_list (mk := fun _ => ([] : List Int)) a_nil)) (a_consp (FG.ej (f_list (mk := fun u => [u.1]) (a_consp e_int a_nil))) (a_consp (FG.ej (f_list (mk := fun u => [u.1, u.2.1, u.2.2.1]) (a_consp e_int (a_consp e_int (a_consp e_int a_nil))))) (a_consp (FG.ej (f_list (mk := fun u => [u.1]) (a_consp (e_negp e_int) a_nil))) (a_consp (FG.ej (f_list (mk := fun u => [u.1, u.2.1, u.2.2.1]) (a_consp e_int (a_consp e_int (a_consp (e_negp e_int) a_nil))))) (a_consp (FG.ej (f_list (mk := fun u => [u.1, u.2.1]) (a_consp (e_negp (e_var 4)) (a_consp (e_var 4) a_nil)))) (a_consp (FG.ej (f_list (mk := fun u => [u.1, u.2.1, u.2.2.1, u.2.2.2.1]) (a_consp e_int (a_consp (e_negp e_int) (a_consp e_int (a_consp e_int a_nil)))))) a_nil)))))))))))))) (g_name 10 C.nd) (.s (.s (.s (.s (.s (.s (.n (.s (.s (.s (.n (.n .nil)))))))))))) (fun r68 one69 => c_at [.val Scr script, .val (List Int) shape1, .val Int r25, .val Int r34, .val Int common14, .val (List (Int × Int)) pairs43, .non, .val Int great49, .val (List (Int × Int)) ratios55, .val (List Int) row65, .val (List Int) one69, .non] (c_if1 (t_not (t_val (e_call C (ok__law_row_right G) (a_consp (e_var 10) a_nil)))) (SR.cp (r_ret e_bool)) (c_nil (.s (.s (.s (.s (.s (.s (.n (.s (.s (.s (.n (.n .nil)))))))))))))))) fun r68 => (r_ret e_bool))))))))))))))))
end Lw

set_option Elab.async false
set_option linter.all false
set_option maxRecDepth 100000
set_option maxHeartbeats 1000000
namespace Law
open PySem PySem.Spec L2 Py Lw
theorem cell_ok {s : Scr} {k : Int} (hk : 0 ≤ k) : Ok (m__law_cell s k) fun _ => True := by
  unfold m__law_cell
  simp only [bok]
  by_cases h : k < (s.ns.length : Int)
  · rw [if_pos (decide_eq_true h), idx_ok hk h]; trivial
  · rw [if_neg (by simpa using h)]
    by_cases h0 : 0 < (s.ns.length : Int)
    · rw [if_pos (decide_eq_true h0), mod_pos h0]
      simp only [bok]
      rw [idx_ok (Int.emod_nonneg _ (by omega)) (Int.emod_lt_of_pos _ h0), mul_l (by decide)]
      trivial
    · rw [if_neg (by simpa using h0)]; trivial
theorem many_ok {s : Scr} {k many limit : Int} (hk : 0 ≤ k) (hk2 : k < 4294967296) (hm0 : 0 ≤ many) (hm : many ≤ 1000000) (hl : 0 < limit) (hl2 : limit < 4294967296) :
    Ok (m__law_many s k many limit) fun xs => xs.length = many.toNat ∧ ∀ x ∈ xs, 0 ≤ x ∧ x < limit := by
  unfold m__law_many
  refine wp (cell_ok hk) fun cell _ => ?_
  simp only [bok]
  rw [guardR_ok (inRange_of (by omega) (by omega))]
  simp only [bok]
  refine wp (P := fun r : Int × List Int => r.2.length = many.toNat ∧ ∀ x ∈ r.2, 0 ≤ x ∧ x < limit) ?_ fun r h => h
  have hlen : (rng 0 many).length = many.toNat := by rw [rng_length]; congr 1; omega
  rw [← hlen]
  refine (forR_wp (I := fun d (r : Int × List Int) => 0 ≤ r.1 ∧ r.2.length = d.length ∧ ∀ x ∈ r.2, 0 ≤ x ∧ x < limit) (done := []) ⟨by show (0 : Int) ≤ (cell.natAbs : Int); omega, rfl, by intro x hx; cases hx⟩ ?_).mono fun r h => ⟨by simpa using h.2.1, h.2.2⟩
  rintro d x r ⟨left, found⟩ e ⟨h1, h2, h3⟩
  have hx := rng_mem (lo := 0) (hi := many) (x := x) (by have e2 : rng 0 many = d ++ x :: r := e; rw [e2]; simp)
  have hd : d.length < sizeLine := by
    have e2 : rng 0 many = d ++ x :: r := e
    have := congrArg List.length e2
    rw [hlen, List.length_append, List.length_cons] at this
    show d.length < 16777216
    omega
  have hf : found.length < sizeLine := by have : found.length = d.length := h2; omega
  have fin : ∀ (l y : Int), 0 ≤ l → 0 ≤ y → y < limit → Ok (Res.ok (l, found ++ [y])) fun s' : Int × List Int => 0 ≤ s'.1 ∧ s'.2.length = (d ++ [x]).length ∧ ∀ x ∈ s'.2, 0 ≤ x ∧ x < limit := by
    intro l y hl0 hy0 hy1
    refine ⟨hl0, ?_, fun z hz => ?_⟩
    · show (found ++ [y]).length = _
      rw [List.length_append, List.length_append]
      have : found.length = d.length := h2
      rw [this]; rfl
    · rcases List.mem_append.mp hz with h | h
      · exact h3 z h
      · cases List.mem_singleton.mp h; exact ⟨hy0, hy1⟩
  have p18 : powM 10 18 = .ok 1000000000000000000 := rfl
  rw [p18]
  simp only [bok, andM_ok]
  split
  · rw [mod_pos hl]
    simp only [bok]
    rw [apn_ok hf]
    simp only [bok]
    rw [div_s hl hl2]
    exact fin _ _ (Int.ediv_nonneg h1 (by omega)) (Int.emod_nonneg _ (by omega)) (Int.emod_lt_of_pos _ hl)
  · rw [mul_r (x := cell) (by decide), mul_l (x := x) (by omega), mul_l (x := 17) (by decide)]
    simp only [bok]
    rw [mod_pos (by decide)]
    simp only [bok]
    generalize hA : (cell * 48271 + x * 69621 + 17 * k + 11) % 2147483647 = A
    have a1 : 0 ≤ A := by rw [← hA]; exact Int.emod_nonneg _ (by decide)
    have a2 : A < 2147483647 := by rw [← hA]; exact Int.emod_lt_of_pos _ (by decide)
    rw [mul_l (x := A) (by omega), mul_l (x := x) (by omega)]
    simp only [bok]
    rw [mod_pos (by decide)]
    simp only [bok]
    generalize hB : (A * A + x * 40692 + 3) % 2147483399 = B
    have b1 : 0 ≤ B := by rw [← hB]; exact Int.emod_nonneg _ (by decide)
    have b2 : B < 2147483399 := by rw [← hB]; exact Int.emod_lt_of_pos _ (by decide)
    rw [mul_l (x := B) (by omega), mul_l (x := x) (by omega)]
    simp only [bok]
    rw [mod_pos (by decide)]
    simp only [bok]
    rw [div_s (by decide) (by decide)]
    simp only [bok]
    rw [mod_pos hl]
    simp only [bok]
    rw [apn_ok hf]
    exact fin _ _ h1 (Int.emod_nonneg _ (by omega)) (Int.emod_lt_of_pos _ hl)
theorem number_ok {ds : List Int} (h : ∀ x ∈ ds, 0 ≤ x ∧ x < 10) : Ok (m__law_number ds) fun r => 0 ≤ r ∧ r < 10 ^ ds.length := by
  unfold m__law_number
  simp only [bok]
  refine wp (P := fun r => 0 ≤ r ∧ r < 10 ^ ds.length) ?_ fun r h => h
  refine (forR_wp (I := fun d (r : Int) => 0 ≤ r ∧ r < 10 ^ d.length) (done := []) ⟨by decide, by decide⟩ ?_)
  rintro d x r s e ⟨h1, h2⟩
  have hx := h x (by have e2 : ds = d ++ x :: r := e; rw [e2]; simp)
  rw [mul_r (by decide)]
  simp only [bok]
  refine ⟨by omega, ?_⟩
  rw [List.length_append, Int.pow_add]
  show s * 10 + x < 10 ^ d.length * 10
  omega
/-! ### the greatest common divisor -/
theorem euclid {f : Int × Int → Int → Res (Ctl (Int × Int) (Int × Int) Int)} (h0 : ∀ a x, f (a, 0) x = .ok (.bk (a, 0))) (h1 : ∀ (a b : Nat) x, b ≠ 0 → f ((a : Int), (b : Int)) x = .ok (.nx ((b : Int), ((a % b : Nat) : Int)))) :
    ∀ (j : Nat) (l : List Int) (a b : Nat), b < 2 ^ j → 2 * j ≤ l.length → (forC f l ((a : Int), (b : Int)) : Res (Ctl (Int × Int) Empty Int)) = .ok (.nx (((Nat.gcd a b : Nat) : Int), 0)) := by
  have e1 : ∀ a b : Nat, Nat.gcd a b = Nat.gcd b (a % b) := fun a b => by rw [Nat.gcd_comm a b, Nat.gcd_rec b a, Nat.gcd_comm]
  have z : ∀ (l : List Int) (a : Nat), (forC f l ((a : Int), ((0 : Nat) : Int)) : Res (Ctl (Int × Int) Empty Int)) = .ok (.nx (((Nat.gcd a 0 : Nat) : Int), 0)) := by
    intro l a
    rw [Nat.gcd_zero_right]
    cases l with
    | nil => rfl
    | cons x r =>
      show (f ((a : Int), 0) x).bind _ = _
      rw [h0]; rfl
  intro j
  induction j with
  | zero =>
    intro l a b hb hl
    have : b = 0 := by simpa using hb
    subst this
    exact z l a
  | succ j ih =>
    intro l a b hb hl
    by_cases b0 : b = 0
    · subst b0; exact z l a
    · match l, hl with
      | x :: y :: r, hl =>
        show (f ((a : Int), (b : Int)) x).bind _ = _
        rw [h1 a b x b0]
        show (forC f (y :: r) ((b : Int), ((a % b : Nat) : Int)) : Res (Ctl (Int × Int) Empty Int)) = _
        rw [e1 a b]
        by_cases c0 : a % b = 0
        · rw [c0]; exact z _ b
        · show (f ((b : Int), ((a % b : Nat) : Int)) y).bind _ = _
          rw [h1 b (a % b) y c0]
          show (forC f r (((a % b : Nat) : Int), ((b % (a % b) : Nat) : Int)) : Res (Ctl (Int × Int) Empty Int)) = _
          rw [e1 b (a % b)]
          refine ih r (a % b) (b % (a % b)) ?_ (by simp only [List.length_cons] at hl; omega)
          have k1 : a % b < b := Nat.mod_lt _ (by omega)
          have k2 : b % (a % b) < a % b := Nat.mod_lt _ (by omega)
          have k3 : a % b + b % (a % b) ≤ b := by
            have := Nat.div_add_mod b (a % b)
            have q : 1 ≤ b / (a % b) := Nat.div_pos (by omega) (by omega)
            have := Nat.mul_le_mul_left (a % b) q
            omega
          rw [Nat.pow_succ] at hb
          omega
theorem common_ok {a b : Int} (hb : b.natAbs < 2 ^ 256) : m__law_common a b = .ok ((Nat.gcd a.natAbs b.natAbs : Nat) : Int) := by
  unfold m__law_common
  simp only [bok]
  rw [guardR_ok (by decide)]
  simp only [bok]
  rw [euclid (j := 256)]
  · rfl
  · intro a x; rfl
  · intro a b x hb
    have : ¬ ((b : Int) = 0) := by omega
    simp only [this, decide_false, Bool.false_eq_true, if_false]
    rw [mod_pos (by omega)]
    rfl
  · exact hb
  · rw [rng_length]; decide
/-! ### likeness -/
theorem says_refl (b : Bool) : m__law_says b b = .ok true := by cases b <;> rfl
theorem alike_refl (n : Nat) : ∀ d : PyData, Dsh n d → m__law_alike_r n ⟨d⟩ ⟨d⟩ = .ok true := by
  induction n with
  | zero => intro d h; exact h.elim
  | succ n ih =>
    intro d h
    cases d with
    | none => rfl
    | bool b => exact says_refl b
    | int i =>
      show andM (m__law_is_whole ⟨.int i⟩) (eqvD ⟨.int i⟩ ⟨.int i⟩) = _
      rw [eqvD_int]; rfl
    | str i =>
      show andM (.ok true) (eqvD ⟨.str i⟩ ⟨.str i⟩) = _
      rw [eqvD_str h]; rfl
    | list xs =>
      obtain ⟨h1, h2⟩ := h
      rw [lenCap_eq] at h1
      rw [m__law_alike_r]
      have e : (Len.len (PD.mk (.list xs)) : Res Int) = .ok (xs.length : Int) := rfl
      have e1 : isTup (PD.mk (.list xs)) = false := rfl
      have e2 : isLst (PD.mk (.list xs)) = true := rfl
      rw [e1, e2, e]
      simp only [bok, Bool.or_true, if_true, decide_true, Bool.not_true, Bool.or_self, Bool.false_eq_true, if_false]
      rw [guardR_ok (inRange_of (by omega) (by omega))]
      simp only [bok]
      rw [forC_look]
      · rfl
      · intro at' ha
        have hx := rng_mem ha
        rw [idxD_list hx.1 hx.2]
        simp only [bok]
        rw [ih _ (h2 _ (List.getElem_mem _))]
        rfl
    | tuple xs =>
      obtain ⟨h1, h2⟩ := h
      rw [lenCap_eq] at h1
      rw [m__law_alike_r]
      have e : (Len.len (PD.mk (.tuple xs)) : Res Int) = .ok (xs.length : Int) := rfl
      have e1 : isTup (PD.mk (.tuple xs)) = true := rfl
      have e2 : isLst (PD.mk (.tuple xs)) = false := rfl
      rw [e1, e2, e]
      simp only [bok, Bool.or_true, Bool.or_false, if_true, decide_true, Bool.not_true, Bool.or_self, Bool.false_eq_true, if_false]
      rw [guardR_ok (inRange_of (by omega) (by omega))]
      simp only [bok]
      rw [forC_look]
      · rfl
      · intro at' ha
        have hx := rng_mem ha
        rw [idxD_tup hx.1 hx.2]
        simp only [bok]
        rw [ih _ (h2 _ (List.getElem_mem _))]
        rfl
    | _ => exact h.elim
theorem alike_int (i : Int) : m__law_alike ⟨.int i⟩ ⟨.int i⟩ = .ok true := alike_refl 8 _ trivial
theorem alike_pair (p : Int × Int) : m__law_alike (PD.mk (Dat.toD p)) (PD.mk (Dat.toD p)) = .ok true := alike_refl 8 _ (dsh_pair trivial trivial)
theorem alike_ints (xs : List Int) (h : xs.length < lenCap) : m__law_alike (PD.mk (Dat.toD xs)) (PD.mk (Dat.toD xs)) = .ok true := alike_refl 8 _ (dsh_list h fun _ _ => trivial)
/-! ### ratios -/
def den (a b : Int) : Int := if b < 0 then -((Nat.gcd a.natAbs b.natAbs : Nat) : Int) else ((Nat.gcd a.natAbs b.natAbs : Nat) : Int)
def rat (a b : Int) : Int × Int := (a.fdiv (den a b), b.fdiv (den a b))
theorem den_abs (a b : Int) : (den a b).natAbs = Nat.gcd a.natAbs b.natAbs := by
  unfold den; split <;> simp
theorem den_bnd {a b : Int} (h : b ≠ 0) (hb : b.natAbs < 2 ^ 256) : den a b ≠ 0 ∧ (den a b).natAbs < 2 ^ 256 := by
  have e := den_abs a b
  have p : 0 < Nat.gcd a.natAbs b.natAbs := Nat.gcd_pos_of_pos_right _ (by omega)
  have l : Nat.gcd a.natAbs b.natAbs ≤ b.natAbs := Nat.gcd_le_right _ (by omega)
  exact ⟨by omega, by omega⟩
theorem ratio_ok {a b : Int} (h : b ≠ 0) (hb : b.natAbs < 2 ^ 256) : m__law_ratio a b = .ok (rat a b) := by
  obtain ⟨d1, d2⟩ := den_bnd (a := a) h hb
  unfold m__law_ratio
  rw [common_ok hb]
  simp only [bok]
  have e : (if decide (b < 0) = true then (Res.ok (-((Nat.gcd a.natAbs b.natAbs : Nat) : Int))) else Res.ok ((Nat.gcd a.natAbs b.natAbs : Nat) : Int)) = Res.ok (den a b) := by
    unfold den
    by_cases c : b < 0 <;> simp [c]
  rw [e]
  simp only [bok]
  rw [div_ok d1 d2 (by decide), div_ok d1 d2 (by decide)]
  rfl
theorem lowest_ok {a b : Int} (h : b ≠ 0) (hb : b.natAbs < 2 ^ 256) : m_lowest a b = .ok (rat a b) := by
  obtain ⟨d1, d2⟩ := den_bnd (a := a) h hb
  unfold m_lowest
  simp only [bok]
  have e : (if decide (b < 0) = true then (Res.ok (-((Nat.gcd a.natAbs b.natAbs : Nat) : Int))) else Res.ok ((Nat.gcd a.natAbs b.natAbs : Nat) : Int)) = Res.ok (den a b) := by
    unfold den
    by_cases c : b < 0 <;> simp [c]
  rw [e]
  simp only [bok]
  rw [div_ok d1 d2 (by decide), div_ok d1 d2 (by decide)]
  rfl
theorem rat_facts {a b : Int} (h : b ≠ 0) : 0 < (rat a b).2 ∧ (rat a b).2.natAbs ≤ b.natAbs ∧ (rat a b).1.natAbs ≤ a.natAbs ∧ Nat.gcd (rat a b).1.natAbs (rat a b).2.natAbs = 1 := by
  have e := den_abs a b
  have p : 0 < Nat.gcd a.natAbs b.natAbs := Nat.gcd_pos_of_pos_right _ (by omega)
  have ha : den a b ∣ a := Int.natAbs_dvd_natAbs.mp (by rw [e]; exact Nat.gcd_dvd_left ..)
  have hb : den a b ∣ b := Int.natAbs_dvd_natAbs.mp (by rw [e]; exact Nat.gcd_dvd_right ..)
  obtain ⟨u, hu⟩ := ha
  obtain ⟨v, hv⟩ := hb
  have d0 : den a b ≠ 0 := by omega
  have e1 : (rat a b).1 = u := by
    show a.fdiv (den a b) = u
    conv => lhs; rw [show a.fdiv (den a b) = (den a b * u).fdiv (den a b) by rw [← hu]]
    exact Int.mul_fdiv_cancel_left u d0
  have e2 : (rat a b).2 = v := by
    show b.fdiv (den a b) = v
    conv => lhs; rw [show b.fdiv (den a b) = (den a b * v).fdiv (den a b) by rw [← hv]]
    exact Int.mul_fdiv_cancel_left v d0
  have na : a.natAbs = (den a b).natAbs * u.natAbs := by rw [← Int.natAbs_mul, ← hu]
  have nb : b.natAbs = (den a b).natAbs * v.natAbs := by rw [← Int.natAbs_mul, ← hv]
  have dp : 1 ≤ (den a b).natAbs := by omega
  rw [e1, e2]
  refine ⟨?_, ?_, ?_, ?_⟩
  · have hs : (b < 0 → den a b < 0) ∧ (0 < b → 0 < den a b) := by
      unfold den
      constructor
      · intro c; rw [if_pos c]; omega
      · intro c; rw [if_neg (by omega)]; omega
    rcases Int.lt_or_gt_of_ne h with c | c
    · have := hs.1 c
      by_cases v0 : 0 < v
      · exact v0
      · exfalso
        have : 0 ≤ den a b * v := Int.mul_nonneg_of_nonpos_of_nonpos (by omega) (by omega)
        omega
    · have := hs.2 c
      by_cases v0 : 0 < v
      · exact v0
      · exfalso
        have : den a b * v ≤ 0 := Int.mul_nonpos_of_nonneg_of_nonpos (by omega) (by omega)
        omega
  · rw [nb]; exact Nat.le_mul_of_pos_left _ dp
  · rw [na]; exact Nat.le_mul_of_pos_left _ dp
  · have q := Nat.gcd_mul_left (den a b).natAbs u.natAbs v.natAbs
    rw [← na, ← nb, ← e] at q
    exact Nat.eq_of_mul_eq_mul_left dp (q.symm.trans (Nat.mul_one _).symm)
theorem rat_low {p q : Int} (h : 0 < q) (g : Nat.gcd p.natAbs q.natAbs = 1) : rat p q = (p, q) := by
  unfold rat den
  rw [g, if_neg (by omega)]
  show (p.fdiv 1, q.fdiv 1) = _
  rw [Int.fdiv_one, Int.fdiv_one]
theorem lowest_right {a b : Int} (h : b ≠ 0) (hb : b.natAbs < 2 ^ 256) : m__law_lowest_right a b = .ok true := by
  unfold m__law_lowest_right
  rw [ratio_ok h hb]
  simp only [bok]
  rw [lowest_ok h hb]
  simp only [bok]
  rw [alike_pair]
  obtain ⟨f1, f2, f3, f4⟩ := rat_facts (a := a) h
  simp only [bok, Bool.not_true, Bool.false_eq_true, if_false]
  rw [lowest_ok (by omega) (by omega), rat_low f1 f4]
  simp only [bok]
  exact alike_pair _
theorem compared {rs : List (Int × Int)} (h : ∀ p ∈ rs, p.1.natAbs < 2 ^ 256 ∧ p.2.natAbs < 2 ^ 256) : m__law_compared rs = .ok true := by
  unfold m__law_compared
  simp only [bok]
  rw [forC_look]
  · rfl
  intro one h1
  rw [forC_look]
  · rfl
  intro two h2
  obtain ⟨a1, a2⟩ := h _ h1
  obtain ⟨b1, b2⟩ := h _ h2
  unfold m_compare_ratios
  rw [mul_big a1 b2 (by decide), mul_big b1 a2 (by decide)]
  simp only [bok]
  generalize one.1 * two.2 - two.1 * one.2 = gap
  rcases Int.lt_trichotomy gap 0 with c | c | c
  · have n1 : ¬ (0 < gap) := by omega
    have n2 : ¬ (gap = 0) := by omega
    simp only [c, n1, n2, decide_true, decide_false, if_true, if_false, Bool.false_eq_true, bok]
    rw [show (Dat.toD (-1 : Int)) = PyData.int (-1) from rfl, alike_int]
    rfl
  · subst c
    simp only [decide_true, decide_false, if_true, if_false, Bool.false_eq_true, bok, show ¬ ((0:Int) < 0) by decide]
    rw [show (Dat.toD (0 : Int)) = PyData.int 0 from rfl, alike_int]
    rfl
  · have n1 : ¬ (gap < 0) := by omega
    have n2 : ¬ (gap = 0) := by omega
    simp only [c, n1, n2, decide_true, decide_false, if_true, if_false, Bool.false_eq_true, bok]
    rw [show (Dat.toD (1 : Int)) = PyData.int 1 from rfl, alike_int]
    rfl
/-! ### rows -/
def gf (s x : Int) : Int := ((Nat.gcd s.natAbs x.natAbs : Nat) : Int)
def G (row : List Int) : Int := row.foldl gf 0
theorem G_bnd {row : List Int} (h : ∀ x ∈ row, x.natAbs < 2 ^ 256) : 0 ≤ G row ∧ (G row).natAbs < 2 ^ 256 := by
  refine foldl_keep (P := fun s : Int => 0 ≤ s ∧ s.natAbs < 2 ^ 256) ⟨by decide, by decide⟩ fun s x hx hs => ?_
  have e : (gf s x).natAbs = Nat.gcd s.natAbs x.natAbs := by unfold gf; simp
  refine ⟨by unfold gf; omega, ?_⟩
  rw [e]
  by_cases x0 : x = 0
  · subst x0; rw [show (0 : Int).natAbs = 0 from rfl, Nat.gcd_zero_right]; exact hs.2
  · have l := Nat.gcd_le_right s.natAbs (show 0 < x.natAbs by omega)
    have := h x hx
    omega
def low (row : List Int) : List Int := if G row = 0 then row else row.map fun x => x.fdiv (G row)
theorem lowered_ok {row : List Int} (h : ∀ x ∈ row, x.natAbs < 2 ^ 256) (hl : row.length ≤ 1000) : m__law_lowered row = .ok (low row) := by
  unfold m__law_lowered
  simp only [bok]
  rw [forR_eq (g := gf)]
  · simp only [bok]
    rw [show row.foldl gf 0 = G row from rfl]
    unfold low
    by_cases c : G row = 0
    · rw [if_pos (decide_eq_true c), if_pos c]
    · rw [if_neg (by simpa using c), if_neg c]
      exact lcX_ok (by show _ ≤ 16777216; omega) fun x _ => div_ok c (G_bnd h).2 (by decide)
  · intro s x hx
    rw [common_ok (h x hx)]
    rfl
theorem lowest_row_ok {row : List Int} (h : ∀ x ∈ row, x.natAbs < 2 ^ 256) (hl : row.length ≤ 1000) : m_lowest_row row = .ok (low row) := by
  unfold m_lowest_row
  simp only [bok]
  rw [forR_eq (g := gf)]
  · simp only [bok]
    rw [show row.foldl gf 0 = G row from rfl]
    unfold low
    have b := G_bnd h
    by_cases c2 : G row < 2
    · rw [if_pos (decide_eq_true c2)]
      by_cases c : G row = 0
      · rw [if_pos c]
      · rw [if_neg c, show G row = 1 by omega]
        have e : (fun x : Int => x.fdiv 1) = id := by funext x; simp
        rw [e, List.map_id]
    · rw [if_neg (by simpa using c2), if_neg (by omega)]
      exact lcX_ok (by show _ ≤ 16777216; omega) fun x _ => div_ok (by omega) (G_bnd h).2 (by decide)
  · intro s x hx
    rfl
theorem low_len (row : List Int) : (low row).length = row.length := by
  unfold low; split
  · rfl
  · rw [List.length_map]
theorem row_right {row : List Int} (h : ∀ x ∈ row, x.natAbs < 2 ^ 256) (hl : row.length ≤ 1000) : m__law_row_right row = .ok true := by
  unfold m__law_row_right
  have e : m__law_alike (PD.mk (Dat.toD (low row))) (PD.mk (Dat.toD (low row))) = .ok true := alike_ints _ (by rw [low_len, lenCap_eq]; omega)
  rw [lowered_ok h hl]
  simp only [bok]
  rw [lowest_row_ok h hl]
  simp only [bok]
  rw [e]
  have d : Dat.dec row row = true := (Dat.iff row row).mpr rfl
  rw [d]
  have q : (Res.ok true : Res Bool).quiet = .ok true := rfl
  rw [q]
  simp only [bok, Bool.not_true, orM_ok, Bool.or_self, Bool.false_eq_true, if_false]
  rw [apn_ok (by rw [low_len]; show _ < 16777216; omega)]
  simp only [bok]
  rfl
/-! ### what is drawn -/
theorem draw {s : Scr} {shape : List Int} (hs : shape.length = 10) (hp : ∀ x ∈ shape, 0 ≤ x ∧ x < 2520) {i k c : Int} (i0 : 0 ≤ i) (i1 : i < 10) (k0 : 0 ≤ k) (k1 : k < 100) (c0 : 0 < c) (c1 : c ≤ 31) :
    Ok (Res.bind (Res.bind (Res.bind (idxM shape i) fun x => Res.bind (Res.ok c) fun y => modM x y) fun a => m__law_many s k a 10) fun a => m__law_number a) fun r => 0 ≤ r ∧ r < 2 ^ 100 := by
  refine wp (P := fun ds : List Int => ds.length ≤ 30 ∧ ∀ x ∈ ds, 0 ≤ x ∧ x < 10) ?_ fun ds hd => ?_
  · refine wp (P := fun a : Int => 0 ≤ a ∧ a ≤ 30) ?_ fun a ha => ?_
    · refine wp (idx_all i0 (by omega) hp) fun x hx => ?_
      rw [bok, mod_pos c0]
      have := Int.emod_nonneg x (show c ≠ 0 by omega)
      have := Int.emod_lt_of_pos x c0
      exact ⟨by omega, by omega⟩
    · exact (many_ok k0 (by omega) ha.1 (by omega) (by decide) (by decide)).mono fun ds hd => ⟨by omega, hd.2⟩
  · refine (number_ok hd.2).mono fun r hr => ⟨hr.1, ?_⟩
    have : (10 : Int) ^ ds.length ≤ 10 ^ 30 := ipow10 hd.1
    have : (10 : Int) ^ 30 < 2 ^ 100 := by decide
    omega
theorem neighbours_ok {s : Scr} {shape : List Int} (hs : shape.length = 10) (hp : ∀ x ∈ shape, 0 ≤ x ∧ x < 2520) :
    Ok (m__law_neighbours s shape) fun rs => rs.length = 2 ∧ ∀ p ∈ rs, p.1.natAbs < 2 ^ 250 ∧ p.2.natAbs < 2 ^ 250 := by
  unfold m__law_neighbours
  simp only [bok]
  refine wp (P := fun r : (Int × Int) × (Int × Int) => (0 ≤ r.1.1 ∧ r.1.1 ≤ 2 ^ 40) ∧ (0 ≤ r.1.2 ∧ r.1.2 ≤ 2 ^ 40) ∧ (0 ≤ r.2.1 ∧ r.2.1 ≤ 2 ^ 40) ∧ (0 ≤ r.2.2 ∧ r.2.2 ≤ 2 ^ 40)) ?_ ?_
  · refine wp (P := fun ds : List Int => ds.length ≤ 40) ?_ fun ds hd => ?_
    · refine wp (P := fun a : Int => 0 ≤ a ∧ a ≤ 40) ?_ fun a ha => ?_
      · refine wp (idx_all (by decide) (by omega) hp) fun x hx => ?_
        rw [mod_pos (by decide)]
        have := Int.emod_nonneg x (show (41 : Int) ≠ 0 by decide)
        have := Int.emod_lt_of_pos x (show (0 : Int) < 41 by decide)
        exact ⟨by omega, by omega⟩
      · exact (many_ok (by decide) (by decide) ha.1 (by omega) (by decide) (by decide)).mono fun ds hd => by omega
    · refine (forR_wp (I := fun d (r : (Int × Int) × (Int × Int)) => (0 ≤ r.1.1 ∧ r.1.1 ≤ 2 ^ d.length) ∧ (0 ≤ r.1.2 ∧ r.1.2 ≤ 2 ^ d.length) ∧ (0 ≤ r.2.1 ∧ r.2.1 ≤ 2 ^ d.length) ∧ (0 ≤ r.2.2 ∧ r.2.2 ≤ 2 ^ d.length)) (done := []) (by decide) ?_).mono fun r hr => ?_
      · rintro d x r ⟨⟨a, b⟩, ⟨c, e⟩⟩ _ ⟨h1, h2, h3, h4⟩
        have l : (d ++ [x]).length = d.length + 1 := by simp
        have p : (2 : Int) ^ (d.length + 1) = 2 ^ d.length * 2 := Int.pow_succ ..
        simp only [] at h1 h2 h3 h4
        generalize hP : (2 : Int) ^ d.length = P at *
        by_cases x0 : x = 0
        · simp only [x0, decide_true, if_true, bok]
          show (0 ≤ a ∧ a ≤ _) ∧ (0 ≤ b ∧ b ≤ _) ∧ (0 ≤ a + c ∧ a + c ≤ _) ∧ (0 ≤ b + e ∧ b + e ≤ _)
          rw [← x0, l, p]
          omega
        · simp only [x0, decide_false, Bool.false_eq_true, if_false, bok]
          show (0 ≤ a + c ∧ a + c ≤ _) ∧ (0 ≤ b + e ∧ b + e ≤ _) ∧ (0 ≤ c ∧ c ≤ _) ∧ (0 ≤ e ∧ e ≤ _)
          rw [l, p]
          omega
      · have q : (2 : Int) ^ ([] ++ ds).length ≤ 2 ^ 40 := ipow2 (by simpa using hd)
        obtain ⟨h1, h2, h3, h4⟩ := hr
        exact ⟨⟨h1.1, by omega⟩, ⟨h2.1, by omega⟩, ⟨h3.1, by omega⟩, ⟨h4.1, by omega⟩⟩
  · rintro ⟨⟨a, b⟩, ⟨c, e⟩⟩ ⟨h1, h2, h3, h4⟩
    simp only [] at h1 h2 h3 h4
    refine wp (draw (i := 5) (k := 5) (c := 21) hs hp (by decide) (by decide) (by decide) (by decide) (by decide) (by decide)) fun moved hm => ?_
    have b1 : moved * b ≤ 2 ^ 100 * 2 ^ 40 := Int.mul_le_mul (by omega) h2.2 h2.1 (by decide)
    have b2 : 0 ≤ moved * b := Int.mul_nonneg hm.1 h2.1
    have b3 : moved * e ≤ 2 ^ 100 * 2 ^ 40 := Int.mul_le_mul (by omega) h4.2 h4.1 (by decide)
    have b4 : 0 ≤ moved * e := Int.mul_nonneg hm.1 h4.1
    show Ok (Res.bind (Res.bind (Res.bind (mulM moved b) fun y => Res.ok (a + y)) fun a20 => Res.ok (a20, b)) fun a24 => Res.bind (Res.bind (Res.bind (mulM moved e) fun y => Res.ok (c + y)) fun a23 => Res.ok (a23, e)) fun a25 => Res.ok [a24, a25]) _
    rw [mul_r (x := moved) (y := b) (by omega), mul_r (x := moved) (y := e) (by omega)]
    simp only [bok]
    refine ⟨rfl, fun p hp => ?_⟩
    simp only [List.mem_cons, List.not_mem_nil, or_false] at hp
    rcases hp with rfl | rfl
    · exact ⟨by omega, by omega⟩
    · exact ⟨by omega, by omega⟩
theorem row_ok {s : Scr} {shape : List Int} {common : Int} (hs : shape.length = 10) (hp : ∀ x ∈ shape, 0 ≤ x ∧ x < 2520) (hc : 0 ≤ common ∧ common < 2 ^ 100) :
    Ok (m__law_row s shape common) fun row => row.length ≤ 16 ∧ ∀ x ∈ row, x.natAbs < 2 ^ 250 := by
  unfold m__law_row
  simp only [bok]
  refine wp (P := fun a : Int => 0 ≤ a ∧ a ≤ 16) ?_ fun many hm => ?_
  · refine wp (idx_all (by decide) (by omega) hp) fun x hx => ?_
    rw [mod_pos (by decide)]
    exact ⟨by omega, by omega⟩
  refine wp (P := fun a : Int => 0 ≤ a ∧ a ≤ 16) ?_ fun many hm => ?_
  · refine wp (P := fun _ : Bool => True) ?_ fun b _ => ?_
    · refine wp (P := fun _ : Int => True) ?_ fun b _ => trivial
      refine wp (idx_all (by decide) (by omega) hp) fun x hx => ?_
      rw [mod_pos (by decide)]
      trivial
    · cases b
      · exact hm
      · exact ⟨by decide, by decide⟩
  refine wp (P := fun w : Int => 0 ≤ w ∧ w ≤ 1000) ?_ fun wide hw => ?_
  · refine wp (P := fun a : Int => 0 ≤ a ∧ a < 3) ?_ fun a ha => ?_
    · refine wp (idx_all (by decide) (by omega) hp) fun x hx => ?_
      rw [mod_pos (by decide)]
      exact ⟨by omega, by omega⟩
    · exact idx_all ha.1 (by show a < 3; omega) (by intro x hx; simp only [List.mem_cons, List.not_mem_nil, or_false] at hx; omega)
  rw [mul_l (x := 2) (by decide)]
  simp only [bok]
  refine wp (many_ok (by decide) (by decide) hm.1 (by omega) (by omega) (by omega)) fun xs hx => ?_
  have f : ∀ x ∈ xs, mulM (x - wide) common = .ok ((x - wide) * common) := fun x h => mul_l (by have := hx.2 x h; omega)
  rw [lcX_ok (by show _ ≤ 16777216; omega) f]
  refine ⟨by rw [List.length_map]; omega, fun z hz => ?_⟩
  obtain ⟨x, h, rfl⟩ := List.mem_map.mp hz
  have h2 := hx.2 x h
  rw [Int.natAbs_mul]
  have : (x - wide).natAbs < 2 ^ 20 := by omega
  have : common.natAbs < 2 ^ 100 := by omega
  have : (x - wide).natAbs * common.natAbs < 2 ^ 20 * 2 ^ 100 := Nat.mul_lt_mul'' (by assumption) (by assumption)
  omega
theorem law_true (ns : List Int) (hl : ns.length ≤ 63) (hb : ∀ z ∈ ns, PySem.Builtin.Int.intBits z ≤ 1048576) : m_law ⟨ns⟩ = .ok true := by
  refine ok_eq ?_
  unfold m_law
  simp only [bok]
  refine wp (many_ok (by decide) (by decide) (by decide) (by decide) (by decide) (by decide)) fun shape hs => ?_
  obtain ⟨hs, hp⟩ := hs
  refine wp (draw (c := 31) hs hp (by decide) (by decide) (by decide) (by decide) (by decide) (by decide)) fun first hf => ?_
  refine wp (P := fun r : Int => 1 ≤ r ∧ r < 2 ^ 100) ?_ fun second hsec => ?_
  · refine wp (draw (c := 31) hs hp (by decide) (by decide) (by decide) (by decide) (by decide) (by decide)) fun y hy => ?_
    show 1 ≤ (if y > 1 then y else 1) ∧ (if y > 1 then y else 1) < 2 ^ 100
    split <;> omega
  refine wp (P := fun r : Int => 1 ≤ r ∧ r < 2 ^ 100) ?_ fun common hcom => ?_
  · refine wp (draw (c := 31) hs hp (by decide) (by decide) (by decide) (by decide) (by decide) (by decide)) fun y hy => ?_
    show 1 ≤ (if y > 1 then y else 1) ∧ (if y > 1 then y else 1) < 2 ^ 100
    split <;> omega
  refine wp (P := fun r : Int => r.natAbs < 2 ^ 100) ?_ fun fi hfi => ?_
  · refine wp (P := fun _ : Bool => True) ?_ fun b _ => ?_
    · refine wp (P := fun _ : Int => True) ?_ fun b _ => trivial
      refine wp (idx_all (by decide) (by omega) hp) fun x hx => ?_
      rw [mod_pos (by decide)]
      trivial
    · cases b
      · show first.natAbs < _; omega
      · show (-first).natAbs < _; omega
  refine wp (P := fun r : Int => r ≠ 0 ∧ r.natAbs < 2 ^ 100) ?_ fun se hse => ?_
  · refine wp (P := fun _ : Bool => True) ?_ fun b _ => ?_
    · refine wp (P := fun _ : Int => True) ?_ fun b _ => trivial
      refine wp (P := fun _ : Int => True) ?_ fun b _ => by rw [mod_pos (by decide)]; trivial
      refine wp (idx_all (by decide) (by omega) hp) fun x hx => ?_
      rw [div_s (by decide) (by decide)]
      trivial
    · cases b
      · show second ≠ 0 ∧ second.natAbs < _; omega
      · show -second ≠ 0 ∧ (-second).natAbs < _; omega
  have hcn : common.natAbs < 2 ^ 100 := by omega
  have sc : (se * common).natAbs < 2 ^ 100 * 2 ^ 100 := by rw [Int.natAbs_mul]; exact Nat.mul_lt_mul'' hse.2 hcn
  have sc0 : se * common ≠ 0 := Int.mul_ne_zero hse.1 (by omega)
  rw [mul_big hfi hcn (by decide), mul_big hse.2 hcn (by decide)]
  simp only [bok]
  rw [cat_ok (by show 11 ≤ 16777216; omega)]
  simp only [bok]
  rw [forC_look]
  rotate_left
  · intro pr h
    have z : m__law_lowest_right pr.1 pr.2 = .ok true := by
      refine lowest_right ?_ ?_ <;> (simp only [List.cons_append, List.nil_append, List.mem_cons, List.not_mem_nil, or_false] at h; rcases h with rfl | rfl | rfl | rfl | rfl | rfl | rfl | rfl | rfl | rfl | rfl <;> simp only [] <;> omega)
    rw [z]
    rfl
  show Ok (Res.bind _ _) _
  have p24 : powM 10 24 = .ok 1000000000000000000000000 := rfl
  rw [p24]
  simp only [bok]
  have r1 := rat_facts (a := fi) hse.1
  have r2 := rat_facts (a := se) (b := common) (by omega)
  rw [ratio_ok hse.1 (by omega), ratio_ok (a := se) (b := common) (by omega) (by omega)]
  simp only [bok]
  refine wp (P := fun rs : List (Int × Int) => rs.length = 7 ∧ ∀ p ∈ rs, p.1.natAbs < 2 ^ 250 ∧ p.2.natAbs < 2 ^ 250) ?_ fun rs hrs => ?_
  · refine wp (neighbours_ok hs hp) fun ys hy => ?_
    rw [cat_ok (by rw [hy.1]; show 7 ≤ 16777216; omega)]
    refine ⟨by rw [List.length_append, hy.1]; rfl, fun p h => ?_⟩
    rcases List.mem_append.mp h with h | h
    · simp only [List.mem_cons, List.not_mem_nil, or_false] at h
      rcases h with rfl | rfl | rfl | rfl | rfl <;> (try simp only []) <;> omega
    · exact hy.2 p h
  rw [lcX_ok (g := fun p : Int × Int => (-p.1, p.2)) (by show _ ≤ 16777216; omega) fun _ _ => rfl]
  simp only [bok]
  rw [cat_ok (by rw [List.length_map]; show _ ≤ 16777216; omega)]
  simp only [bok]
  rw [compared fun p h => by
    rcases List.mem_append.mp h with h | h
    · have := hrs.2 p h; omega
    · obtain ⟨q, hq, rfl⟩ := List.mem_map.mp h
      have := hrs.2 q hq
      simp only []
      omega]
  simp only [bok, Bool.not_true, Bool.false_eq_true, if_false]
  refine wp (row_ok hs hp (common := common) (by omega)) fun row hr => ?_
  obtain ⟨hr1, hr2⟩ := hr
  rw [cat_ok (by show _ + 1 ≤ 16777216; omega), cat_ok (by show _ + 1 ≤ 16777216; omega)]
  simp only [bok]
  rw [forC_look]
  · rfl
  intro one h
  have z : m__law_row_right one = .ok true := by
    have hx : (∀ x ∈ one, x.natAbs < 2 ^ 256) ∧ one.length ≤ 1000 := by
      simp only [List.mem_cons, List.not_mem_nil, or_false] at h
      rcases h with rfl | rfl | rfl | rfl | rfl | rfl | rfl | rfl | rfl | rfl | rfl
      · exact ⟨fun x h => by have := hr2 x h; omega, by omega⟩
      · refine ⟨fun x h => ?_, by simp; omega⟩
        simp only [List.mem_append, List.mem_cons, List.not_mem_nil, or_false] at h
        rcases h with h | rfl
        · have := hr2 x h; omega
        · decide
      · refine ⟨fun x h => ?_, by simp; omega⟩
        simp only [List.mem_append, List.mem_cons, List.not_mem_nil, or_false] at h
        rcases h with h | rfl
        · have := hr2 x h; omega
        · decide
      · refine ⟨fun x h => ?_, ?_⟩
        · have h2 : x ∈ row := List.mem_of_mem_drop (List.mem_of_mem_take h)
          have := hr2 x h2; omega
        · unfold cut
          rw [List.length_take, List.length_drop]
          omega
      · exact ⟨fun x h => (nomatch h), by decide⟩
      · exact ⟨by decide, by decide⟩
      · exact ⟨by decide, by decide⟩
      · exact ⟨by decide, by decide⟩
      · exact ⟨by decide, by decide⟩
      · refine ⟨fun x h => ?_, by show 2 ≤ 1000; omega⟩
        simp only [List.mem_cons, List.not_mem_nil, or_false] at h
        omega
      · exact ⟨by decide, by decide⟩
    exact row_right hx.1 hx.2
  rw [z]
  rfl
end Law

set_option maxHeartbeats 0
namespace Hd
open PySem PySem.Spec L2 Py Lw
def d_lowest : He.DefD := ⟨("lowest", none), "lowest", "lowest", defArgs (topS 2), defBody (topS 2), defScope (topS 2), [], []⟩
def d_lowest_row : He.DefD := ⟨("lowest_row", none), "lowest_row", "lowest_row", defArgs (topS 3), defBody (topS 3), defScope (topS 3), [], []⟩
def d_compare_ratios : He.DefD := ⟨("compare_ratios", none), "compare_ratios", "compare_ratios", defArgs (topS 4), defBody (topS 4), defScope (topS 4), [], []⟩
def d__law_is_whole : He.DefD := ⟨("_law_is_whole", none), "_law_is_whole", "_law_is_whole", defArgs (topS 6), defBody (topS 6), defScope (topS 6), [], []⟩
def d__law_cell : He.DefD := ⟨("_law_cell", none), "_law_cell", "_law_cell", defArgs (topS 7), defBody (topS 7), defScope (topS 7), [], []⟩
def d__law_many : He.DefD := ⟨("_law_many", none), "_law_many", "_law_many", defArgs (topS 8), defBody (topS 8), defScope (topS 8), [], []⟩
def d__law_says : He.DefD := ⟨("_law_says", none), "_law_says", "_law_says", defArgs (topS 9), defBody (topS 9), defScope (topS 9), [], []⟩
def d__law_alike : He.DefD := ⟨("_law_alike", none), "_law_alike", "_law_alike", defArgs (topS 10), defBody (topS 10), defScope (topS 10), [], []⟩
def d__law_common : He.DefD := ⟨("_law_common", none), "_law_common", "_law_common", defArgs (topS 11), defBody (topS 11), defScope (topS 11), [], []⟩
def d__law_number : He.DefD := ⟨("_law_number", none), "_law_number", "_law_number", defArgs (topS 12), defBody (topS 12), defScope (topS 12), [], []⟩
def d__law_ratio : He.DefD := ⟨("_law_ratio", none), "_law_ratio", "_law_ratio", defArgs (topS 13), defBody (topS 13), defScope (topS 13), [], []⟩
def d__law_lowered : He.DefD := ⟨("_law_lowered", none), "_law_lowered", "_law_lowered", defArgs (topS 14), defBody (topS 14), defScope (topS 14), [], []⟩
def d__law_neighbours : He.DefD := ⟨("_law_neighbours", none), "_law_neighbours", "_law_neighbours", defArgs (topS 15), defBody (topS 15), defScope (topS 15), [], []⟩
def d__law_lowest_right : He.DefD := ⟨("_law_lowest_right", none), "_law_lowest_right", "_law_lowest_right", defArgs (topS 16), defBody (topS 16), defScope (topS 16), [], []⟩
def d__law_compared : He.DefD := ⟨("_law_compared", none), "_law_compared", "_law_compared", defArgs (topS 17), defBody (topS 17), defScope (topS 17), [], []⟩
def d__law_row_right : He.DefD := ⟨("_law_row_right", none), "_law_row_right", "_law_row_right", defArgs (topS 18), defBody (topS 18), defScope (topS 18), [], []⟩
def d__law_row : He.DefD := ⟨("_law_row", none), "_law_row", "_law_row", defArgs (topS 19), defBody (topS 19), defScope (topS 19), [], []⟩
def d_law : He.DefD := ⟨("law", none), "law", "law", defArgs (topS 20), defBody (topS 20), defScope (topS 20), [], []⟩
def fn0 : List He.DefD := [d_lowest, d_lowest_row, d_compare_ratios, d__law_is_whole, d__law_cell, d__law_many, d__law_says, d__law_alike, d__law_common, d__law_number, d__law_ratio, d__law_lowered, d__law_neighbours, d__law_lowest_right, d__law_compared, d__law_row_right, d__law_row, d_law]
def fn : List He.DefD := fn0
def fa0 : List He.Fa := [.glo "lowest", .glo "lowest_row", .glo "compare_ratios", .glo "_law_is_whole", .glo "_law_cell", .glo "_law_many", .glo "_law_says", .glo "_law_alike", .glo "_law_common", .glo "_law_number", .glo "_law_ratio", .glo "_law_lowered", .glo "_law_neighbours", .glo "_law_lowest_right", .glo "_law_compared", .glo "_law_row_right", .glo "_law_row", .glo "law", .free "abs", .free "bool", .free "int", .free "isinstance", .free "len", .free "list", .free "max", .free "range", .free "str", .free "tuple"]
def fa : List He.Fa := fa0
def fb (K : PySem.W.Frag) : Bool := true && bltB "gcd" "math.gcd" K
theorem fx {K : PySem.W.Frag} {h : Heap} {mg : Str → Option Value} (X : K.In h) (G : h.Ns mainGlobals mg) (c : SaysP fb fa fn K) : Fx K mg where
  d_lowest := c.says.def_ 0 (d := d_lowest) rfl
  g_lowest := He.glo_ok X G (c.says.fact 0 (f := .glo "lowest") rfl)
  d_lowest_row := c.says.def_ 1 (d := d_lowest_row) rfl
  g_lowest_row := He.glo_ok X G (c.says.fact 1 (f := .glo "lowest_row") rfl)
  d_compare_ratios := c.says.def_ 2 (d := d_compare_ratios) rfl
  g_compare_ratios := He.glo_ok X G (c.says.fact 2 (f := .glo "compare_ratios") rfl)
  d__law_is_whole := c.says.def_ 3 (d := d__law_is_whole) rfl
  g__law_is_whole := He.glo_ok X G (c.says.fact 3 (f := .glo "_law_is_whole") rfl)
  d__law_cell := c.says.def_ 4 (d := d__law_cell) rfl
  g__law_cell := He.glo_ok X G (c.says.fact 4 (f := .glo "_law_cell") rfl)
  d__law_many := c.says.def_ 5 (d := d__law_many) rfl
  g__law_many := He.glo_ok X G (c.says.fact 5 (f := .glo "_law_many") rfl)
  d__law_says := c.says.def_ 6 (d := d__law_says) rfl
  g__law_says := He.glo_ok X G (c.says.fact 6 (f := .glo "_law_says") rfl)
  d__law_alike := c.says.def_ 7 (d := d__law_alike) rfl
  g__law_alike := He.glo_ok X G (c.says.fact 7 (f := .glo "_law_alike") rfl)
  d__law_common := c.says.def_ 8 (d := d__law_common) rfl
  g__law_common := He.glo_ok X G (c.says.fact 8 (f := .glo "_law_common") rfl)
  d__law_number := c.says.def_ 9 (d := d__law_number) rfl
  g__law_number := He.glo_ok X G (c.says.fact 9 (f := .glo "_law_number") rfl)
  d__law_ratio := c.says.def_ 10 (d := d__law_ratio) rfl
  g__law_ratio := He.glo_ok X G (c.says.fact 10 (f := .glo "_law_ratio") rfl)
  d__law_lowered := c.says.def_ 11 (d := d__law_lowered) rfl
  g__law_lowered := He.glo_ok X G (c.says.fact 11 (f := .glo "_law_lowered") rfl)
  d__law_neighbours := c.says.def_ 12 (d := d__law_neighbours) rfl
  g__law_neighbours := He.glo_ok X G (c.says.fact 12 (f := .glo "_law_neighbours") rfl)
  d__law_lowest_right := c.says.def_ 13 (d := d__law_lowest_right) rfl
  g__law_lowest_right := He.glo_ok X G (c.says.fact 13 (f := .glo "_law_lowest_right") rfl)
  d__law_compared := c.says.def_ 14 (d := d__law_compared) rfl
  g__law_compared := He.glo_ok X G (c.says.fact 14 (f := .glo "_law_compared") rfl)
  d__law_row_right := c.says.def_ 15 (d := d__law_row_right) rfl
  g__law_row_right := He.glo_ok X G (c.says.fact 15 (f := .glo "_law_row_right") rfl)
  d__law_row := c.says.def_ 16 (d := d__law_row) rfl
  g__law_row := He.glo_ok X G (c.says.fact 16 (f := .glo "_law_row") rfl)
  d_law := c.says.def_ 17 (d := d_law) rfl
  g_law := He.glo_ok X G (c.says.fact 17 (f := .glo "law") rfl)
  n_abs := He.free_ok X G (c.says.fact 18 (f := .free "abs") rfl)
  n_bool := He.free_ok X G (c.says.fact 19 (f := .free "bool") rfl)
  n_int := He.free_ok X G (c.says.fact 20 (f := .free "int") rfl)
  n_isinstance := He.free_ok X G (c.says.fact 21 (f := .free "isinstance") rfl)
  n_len := He.free_ok X G (c.says.fact 22 (f := .free "len") rfl)
  n_list := He.free_ok X G (c.says.fact 23 (f := .free "list") rfl)
  n_max := He.free_ok X G (c.says.fact 24 (f := .free "max") rfl)
  n_range := He.free_ok X G (c.says.fact 25 (f := .free "range") rfl)
  n_str := He.free_ok X G (c.says.fact 26 (f := .free "str") rfl)
  n_tuple := He.free_ok X G (c.says.fact 27 (f := .free "tuple") rfl)
  c_gcd := bltB_ok X G (He.ba c.own).2
end Hd
open PySem PySem.W PyProof.Rows
open_top hd for PySem.Challenge.rw_judgesandtrees_k02_ratios_by_own_sums
theorem PySem.Challenge.cw_judgesandtrees_k02_ratios_by_own_sums_holds : PySem.Challenge.rw_judgesandtrees_k02_ratios_by_own_sums.Holds := by
  refine hd ?_
  refine Py.walk_py (l := PySem.Challenge.rw_judgesandtrees_k02_ratios_by_own_sums) (n := 63) (k := 12) (x := "script") (f := fun u => Lw.m_law u.1) rfl (by decide) (by kernel_rfl) ⟨rfl, by decide, by decide⟩ (fun ns hl hb => Law.law_true ns hl hb) ?F
  intro w mg fa h Y G hmg0
  have KX := kIn_of Y
  have g := Hd.fx KX G ⟨by kernel_rfl⟩
  have hmg : mg ("law" : PySem.Str) = some (.ref fa) := hmg0
  have e := hmg.symm.trans g.g_law
  cases e
  obtain ⟨fd, hb, hF⟩ := Lw.okL_law (P := (PySem.Challenge.rw_judgesandtrees_k02_ratios_by_own_sums).prog) (w := w) g
  exact ⟨_, fd, KX, hb, fun base _ _ => hF base⟩
