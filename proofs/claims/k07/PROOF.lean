import PyProof.Rows.All
import HandS.ForMost
import HandS.ForExc
import HandS.Walk
import HandS.Gcd
import HandS.Wide
import HandS.Defaults
import HandS.CallSlots
import HandS.HeadHook2
import HandS.ExcCtx
import HandS.HotCalls
import HandS.IsInst
import HandS.Style
import HandS.Conv
import HandS.SortRule
import HandS.SortInts
import HandS.Deep
import HandS.Head0
import HandS.Head1
import HandS.Head2
import HandS.HeadEnd
import HandS.HeadHook1
import HandS.EndBits
import HandS.ExcInit
import HandS.FStr
import KE.KExcSuper
import HandS.Exc
import HandS.WordsExc
import HandS.ExcField
import HandS.ExcIs
import HandS.TryMany
import HandS.Text
import KE.GoesMore
import HandS.Iter
import HandS.TupAny
import HandS.Zip
import Wide.All
import OpenK.AllK
import Wide.FinOn
import KE.KStateDown
import PySem.Challenge.RW_judgesandtrees_k07_least_scale_or_ring
set_option Elab.async false
set_option linter.all false
set_option maxRecDepth 100000
set_option maxHeartbeats 1000000
/-! Py, part A: results, hidden heaps, representations, slots, states. -/
namespace Py
open PySem PySem.Spec L2

/-! ### results -/
/-- what an own error says: its class, its fields -/
structure Ex where
  cls : String
  fs : List (String × PyData)
inductive Res (α : Type) where
  | ok (a : α)
  | err (e : Ex)
  | bad
def Res.bind {α β : Type} : Res α → (α → Res β) → Res β
  | .ok a, f => f a
  | .err e, _ => .err e
  | .bad, _ => .bad
/-- errors shut off -/
def Res.quiet {α : Type} : Res α → Res α
  | .ok a => .ok a
  | _ => .bad
def guardR {α : Type} (c : Bool) (m : Res α) : Res α := if c then m else .bad
def Post {α : Type} (m : Res α) (Q : α → Prop) (E : Ex → Prop) : Prop := match m with
  | .ok a => Q a
  | .err e => E e
  | .bad => False
section
variable {α β : Type} {m : Res α} {f : α → Res β} {Q Q' : α → Prop} {E E' : Ex → Prop} {R : β → Prop}
theorem Post.bind (h : Post (m.bind f) R E) : Post m (fun a => Post (f a) R E) E := by
  cases m <;> exact h
theorem Post.to_bind (h : Post m (fun a => Post (f a) R E) E) : Post (m.bind f) R E := by
  cases m <;> exact h
theorem Post.imp (h : Post m Q E) (hq : ∀ a, Q a → Q' a) (he : ∀ e, E e → E' e) : Post m Q' E' := by
  cases m with
  | ok a => exact hq a h
  | err e => exact he e h
  | bad => exact h
theorem Post.ok {a : α} (h : Q a) : Post (.ok a) Q E := h
theorem Post.guard {c : Bool} (h : Post (guardR c m) Q E) : c = true ∧ Post m Q E := by
  unfold guardR at h
  cases c with
  | true => exact ⟨rfl, h⟩
  | false => exact h.elim
theorem Post.quiet (h : Post m.quiet Q E) : Post m Q E' := by
  cases m with
  | ok a => exact h
  | err e => exact h.elim
  | bad => exact h.elim
theorem bind_ok (a : α) (f : α → Res β) : (Res.ok a).bind f = f a := rfl
theorem bind_bad (f : α → Res β) : (Res.bad).bind f = .bad := rfl
theorem bind_err (e : Ex) (f : α → Res β) : (Res.err e).bind f = .err e := rfl
theorem bind_assoc {γ : Type} (m : Res α) (f : α → Res β) (g : β → Res γ) : (m.bind f).bind g = m.bind fun a => (f a).bind g := by cases m <;> rfl
theorem guard_true (m : Res α) : guardR true m = m := rfl
theorem guard_of {c : Bool} (h : c = true) (m : Res α) : guardR c m = m := by rw [h]; rfl
end

/-! ### a heap with some addresses out of sight -/
def hide (B : List Addr) (H : Hp) : Hp := fun a => if a ∈ B then none else H a
section
variable {B B' : List Addr} {H H' H1 : Hp} {a : Addr} {o : HO}
theorem hide_out (h : a ∉ B) : hide B H a = H a := if_neg h
theorem hide_in (h : a ∈ B) : hide B H a = none := if_pos h
theorem hide_some {b : Addr} (e : hide B H b = some o) : b ∉ B ∧ H b = some o := by
  by_cases h : b ∈ B
  · rw [hide_in h] at e; cases e
  · rw [hide_out h] at e; exact ⟨h, e⟩
theorem hide_same (s : Same H H') : Same (hide B H) (hide B H') := fun b o e => by
  obtain ⟨h1, h2⟩ := hide_some e
  rw [hide_out h1]; exact s b o h2
theorem hide_sub : Same (hide B H) H := fun b o e => (hide_some e).2
theorem hide_mono (h : ∀ a, a ∈ B → a ∈ B') : Same (hide B' H) (hide B H) := fun b o e => by
  obtain ⟨h1, h2⟩ := hide_some e
  rw [hide_out fun z => h1 (h b z)]; exact h2
theorem hide_upd_in (h : a ∈ B) : hide B (upd H a o) = hide B H := by
  funext b
  unfold hide
  by_cases hb : b ∈ B
  · rw [if_pos hb, if_pos hb]
  · rw [if_neg hb, if_neg hb, upd_ne]
    rintro rfl
    exact hb h
theorem hide_cons_new (h : H a = none) : hide (a :: B) H = hide B H := by
  funext b
  unfold hide
  by_cases hb : b ∈ B
  · rw [if_pos hb, if_pos (List.mem_cons_of_mem _ hb)]
  · by_cases e : b = a
    · subst e; rw [if_pos List.mem_cons_self, if_neg hb, h]
    · rw [if_neg hb, if_neg fun z => (List.mem_cons.mp z).elim e hb]
theorem same_upd {p : Addr} {o : HO} (h : H p = none) : Same H (upd H p o) := fun b x e => by
  rw [upd_ne (ne_of_none e h)]; exact e
theorem hide_nil : hide [] H = H := by funext b; exact if_neg List.not_mem_nil
end
theorem dom_same {H H' : Hp} (s : Same H H') {b : Addr} (h : H b ≠ none) : H' b ≠ none := by
  cases e : H b with
  | none => exact absurd e h
  | some o => rw [s b o e]; intro z; cases z

/-! ### what a value stands for -/
class Rp (T : Type) where
  rp : PySem.W.Frag → Hp → V → T → Prop
  mono : ∀ {K : PySem.W.Frag} {H H' : Hp} {v : V} {x : T}, Same H H' → rp K H v x → rp K H' v x
open Rp (rp)
/-- where the heap does not matter -/
class Flat (T : Type) [Rp T] : Prop where
  any : ∀ {K : PySem.W.Frag} {H H' : Hp} {v : V} {x : T}, rp K H v x → rp K H' v x
/-- n values as a tuple's places -/
inductive AV : Type 1 where
  | mk (T : Type) [Rp T] (x : T)
abbrev av {T : Type} [Rp T] (x : T) : AV := .mk T x
def AV.rp (K : PySem.W.Frag) (H : Hp) (v : V) : AV → Prop
  | @AV.mk T inst x => @Rp.rp T inst K H v x
theorem AV.mono {K : PySem.W.Frag} {H H' : Hp} {v : V} {x : AV} (s : Same H H') (h : x.rp K H v) : x.rp K H' v := by
  cases x with
  | @mk T inst y => exact @Rp.mono T inst K H H' v y s h
inductive ArgsR (K : PySem.W.Frag) (H : Hp) : List V → List AV → Prop where
  | nil : ArgsR K H [] []
  | cons {v : V} {vs : List V} {x : AV} {xs : List AV} : AV.rp K H v x → ArgsR K H vs xs → ArgsR K H (v :: vs) (x :: xs)
theorem Paired.imp2 {α β : Type} {F G : α → β → Prop} : ∀ {xs : List α} {ys : List β}, Paired F xs ys → (∀ a b, F a b → G a b) → Paired G xs ys
  | _, _, .nil, _ => .nil
  | _, _, .cons r t, f => .cons (f _ _ r) (Paired.imp2 t f)
theorem ArgsR.mono {K : PySem.W.Frag} {H H' : Hp} {vs : List V} {xs : List AV} (s : Same H H') (h : ArgsR K H vs xs) : ArgsR K H' vs xs := by
  induction h with
  | nil => exact .nil
  | cons r _ ih => exact .cons (AV.mono s r) ih
abbrev RpAll {T : Type} [Rp T] (K : PySem.W.Frag) (H : Hp) : List V → List T → Prop := Paired (Rp.rp K H)
theorem RpAll.mono {T : Type} [Rp T] {K : PySem.W.Frag} {H H' : Hp} {vs : List V} {xs : List T} (s : Same H H') (h : RpAll K H vs xs) : RpAll K H' vs xs := Paired.imp2 h fun _ _ => Rp.mono s
theorem SqT.same {K : PySem.W.Frag} {H H' : Hp} {a : Addr} {xs : List V} (e : Same H H') (h : SqT K H a xs) : SqT K H' a xs := by
  rcases h with (h | ⟨o, h⟩) | h
  · exact .inl (.inl (e _ _ h))
  · exact .inl (.inr ⟨o, e _ _ h⟩)
  · exact .inr h

instance : Rp Int where
  rp _ _ v x := v = .int x
  mono _ h := h
instance : Flat Int := ⟨fun h => h⟩
instance : Rp Bool where
  rp _ _ v x := v = .bl x
  mono _ h := h
instance : Flat Bool := ⟨fun h => h⟩
instance : Rp Str where
  rp _ _ v x := v = .str x
  mono _ h := h
instance : Flat Str := ⟨fun h => h⟩
instance : Rp Unit where
  rp _ _ v _ := v = .non
  mono _ h := h
instance : Flat Unit := ⟨fun h => h⟩
instance {T : Type} [Rp T] : Rp (Option T) where
  rp K H v x := match x with
    | none => v = .non
    | some y => rp K H v y ∧ v ≠ .non
  mono {K H H' v x} s h := by
    cases x with
    | none => exact h
    | some y => exact ⟨Rp.mono s h.1, h.2⟩
instance {T : Type} [Rp T] [Flat T] : Flat (Option T) := ⟨fun {K H H' v x} h => by
  cases x with
  | none => exact h
  | some y => exact ⟨Flat.any h.1, h.2⟩⟩
instance {T : Type} [Rp T] : Rp (List T) where
  rp K H v x := ∃ a vs, v = .ref a ∧ H a = some (.lst vs) ∧ RpAll K H vs x
  mono {K H H' v x} s h := by
    obtain ⟨a, vs, e, h1, h2⟩ := h
    exact ⟨a, vs, e, s _ _ h1, RpAll.mono s h2⟩
/-- a tuple of any length, its items of one kind -/
structure Tup (T : Type) where
  l : List T
instance {T : Type} [Rp T] : Rp (Tup T) where
  rp K H v x := ∃ a vs, v = .ref a ∧ SqT K H a vs ∧ RpAll K H vs x.l
  mono {K H H' v x} s h := by
    obtain ⟨a, vs, e, h1, h2⟩ := h
    exact ⟨a, vs, e, SqT.same s h1, RpAll.mono s h2⟩
/-- tuples with a fixed number of places: by their places -/
class Places (T : Type) where
  av : T → List AV
/-- a tuple by its places -/
def rpT {T : Type} [Places T] (K : PySem.W.Frag) (H : Hp) (v : V) (x : T) : Prop := ∃ a vs, v = .ref a ∧ SqT K H a vs ∧ ArgsR K H vs (Places.av x)
theorem rpT.mono {T : Type} [Places T] {K : PySem.W.Frag} {H H' : Hp} {v : V} {x : T} (s : Same H H') (h : rpT K H v x) : rpT K H' v x := by
  obtain ⟨a, vs, e, h1, h2⟩ := h
  exact ⟨a, vs, e, SqT.same s h1, ArgsR.mono s h2⟩
instance (priority := low) {T : Type} [Places T] : Rp T where
  rp := rpT
  mono := rpT.mono
instance {A B : Type} [Rp A] [Rp B] : Places (A × B) := ⟨fun x => [av x.1, av x.2]⟩
/-- arguments one behind the other -/
def asN : Unit → List AV := fun _ => []
def asC {T : Type} [Rp T] {A : Type} (as : A → List AV) : T × A → List AV := fun p => av p.1 :: as p.2
structure T3 (A B C : Type) where
  (a : A) (b : B) (c : C)
instance {A B C : Type} [Rp A] [Rp B] [Rp C] : Places (T3 A B C) := ⟨fun x => [av x.a, av x.b, av x.c]⟩
structure T4 (A B C D : Type) where
  (a : A) (b : B) (c : C) (d : D)
instance {A B C D : Type} [Rp A] [Rp B] [Rp C] [Rp D] : Places (T4 A B C D) := ⟨fun x => [av x.a, av x.b, av x.c, av x.d]⟩
structure T5 (A B C D E : Type) where
  (a : A) (b : B) (c : C) (d : D) (e : E)
instance {A B C D E : Type} [Rp A] [Rp B] [Rp C] [Rp D] [Rp E] : Places (T5 A B C D E) := ⟨fun x => [av x.a, av x.b, av x.c, av x.d, av x.e]⟩
/-- the law's script -/
structure Scr where
  ns : List Int
instance : Rp Scr where
  rp K H v x := ∃ a, v = .ref a ∧ SqL K H a (x.ns.map V.int)
  mono {K H H' v x} s h := by
    obtain ⟨a, e, h1⟩ := h
    exact ⟨a, e, s.seq h1⟩

/-! ### slots, states -/
inductive Slot : Type 1 where
  | non
  | val (T : Type) [Rp T] (x : T)
  | own (T : Type) [Rp T] (ao : Option Addr) (xs : List T)
inductive Rs (K : PySem.W.Frag) (Hs H : Hp) : List Slot → St → List Addr → Prop where
  | nil : Rs K Hs H [] [] []
  | non {ρ : List Slot} {σ : St} {as : List Addr} {o : Option V} : Rs K Hs H ρ σ as → Rs K Hs H (.non :: ρ) (o :: σ) as
  | val {ρ : List Slot} {σ : St} {as : List Addr} {T : Type} [Rp T] {x : T} {v : V} : rp K Hs v x → Rs K Hs H ρ σ as → Rs K Hs H (.val T x :: ρ) (some v :: σ) as
  | own {ρ : List Slot} {σ : St} {as : List Addr} {T : Type} [Rp T] {ao : Option Addr} {xs : List T} {a : Addr} {vs : List V} : (∀ b, ao = some b → b = a) → H a = some (.lst vs) → RpAll K Hs vs xs → Rs K Hs H ρ σ as →
      Rs K Hs H (.own T ao xs :: ρ) (some (.ref a) :: σ) (a :: as)
/-- the slots hold what ρ says; S: what callers keep for themselves; as: what is kept here; ads: the addresses of the kept slots -/
structure RS (K : PySem.W.Frag) (S : List Addr) (ρ : List Slot) (σ : St) (H : Hp) (as : List Addr) : Prop where
  rs : ∃ ads, Rs K (hide (S ++ as) H) H ρ σ ads ∧ ads.Nodup ∧ ∀ a ∈ ads, a ∈ as
  out : ∀ a ∈ as, a ∉ S
  dom : ∀ a ∈ S ++ as, H a ≠ none
section
variable {K : PySem.W.Frag} {S as as' : List Addr} {ρ : List Slot} {σ : St} {H H' Hs Hs' : Hp} {ads : List Addr}
theorem Rs.mono (r : Rs K Hs H ρ σ ads) (s1 : Same Hs Hs') (s2 : ∀ a ∈ ads, ∀ o, H a = some o → H' a = some o) : Rs K Hs' H' ρ σ ads := by
  induction r with
  | nil => exact .nil
  | @non ρ σ as o _ ih => exact Rs.non (o := o) (ih s2)
  | val h _ ih => exact .val (Rp.mono s1 h) (ih s2)
  | own h0 h1 h2 _ ih => exact .own h0 (s2 _ List.mem_cons_self _ h1) (RpAll.mono s1 h2) (ih fun a ha => s2 a (List.mem_cons_of_mem _ ha))
theorem Rs.length (r : Rs K Hs H ρ σ ads) : σ.length = ρ.length := by
  induction r with
  | nil => rfl
  | non _ ih => simp [ih]
  | val _ _ ih => simp [ih]
  | own _ _ _ _ ih => simp [ih]
theorem RS.mono (r : RS K S ρ σ H as) (s : Same H H') : RS K S ρ σ H' as := by
  obtain ⟨⟨ads, h1, h2, h3⟩, h4, h5⟩ := r
  exact ⟨⟨ads, h1.mono (hide_same s) fun a _ o e => s a o e, h2, h3⟩, h4, fun a ha => dom_same s (h5 a ha)⟩
theorem Rs.val_at (r : Rs K Hs H ρ σ ads) : ∀ {i : Nat} {T : Type} {inst : Rp T} {x : T}, ρ[i]? = some (@Slot.val T inst x) → ∃ v, σ[i]? = some (some v) ∧ rp K Hs v x := by
  induction r with
  | nil => intro i T inst x e; cases e
  | non _ ih =>
    intro i T inst x e
    cases i with
    | zero => cases e
    | succ i => exact ih e
  | val h _ ih =>
    intro i T inst x e
    cases i with
    | zero => cases e; exact ⟨_, rfl, h⟩
    | succ i => exact ih e
  | own _ _ _ _ ih =>
    intro i T inst x e
    cases i with
    | zero => cases e
    | succ i => exact ih e
theorem Rs.own_at (r : Rs K Hs H ρ σ ads) : ∀ {i : Nat} {T : Type} {inst : Rp T} {ao : Option Addr} {xs : List T}, ρ[i]? = some (@Slot.own T inst ao xs) →
    ∃ a vs, σ[i]? = some (some (.ref a)) ∧ a ∈ ads ∧ H a = some (.lst vs) ∧ RpAll K Hs vs xs ∧ ∀ b, ao = some b → b = a := by
  induction r with
  | nil => intro i T inst ao x e; cases e
  | non _ ih =>
    intro i T inst ao x e
    cases i with
    | zero => cases e
    | succ i => exact ih e
  | val h _ ih =>
    intro i T inst ao x e
    cases i with
    | zero => cases e
    | succ i => exact ih e
  | own h0 h1 h2 _ ih =>
    intro i T inst ao x e
    cases i with
    | zero => cases e; exact ⟨_, _, rfl, List.mem_cons_self, h1, h2, h0⟩
    | succ i =>
      obtain ⟨a, vs, e1, e2, e3, e4, e5⟩ := ih e
      exact ⟨a, vs, e1, List.mem_cons_of_mem _ e2, e3, e4, e5⟩
end

/-- what stands behind: all that was is as it was but what was kept; what is kept is new or was kept -/
structure Ext (as : List Addr) (H : Hp) (as' : List Addr) (H' : Hp) : Prop where
  same : ∀ b o, H b = some o → b ∉ as → H' b = some o
  dom : ∀ b, H b ≠ none → H' b ≠ none
  own : ∀ a ∈ as', a ∈ as ∨ H a = none
section
variable {as as1 as2 : List Addr} {H H1 H2 : Hp}
theorem Ext.of_same (s : Same H H1) : Ext as H as H1 := ⟨fun b o e _ => s b o e, fun b h => dom_same s h, fun a h => .inl h⟩
theorem Ext.refl : Ext as H as H := Ext.of_same (Same.refl H)
theorem Ext.trans (a : Ext as H as1 H1) (b : Ext as1 H1 as2 H2) : Ext as H as2 H2 where
  same c o e h := b.same c o (a.same c o e h) fun z => by
    rcases a.own c z with q | q
    · exact h q
    · rw [q] at e; cases e
  dom c h := b.dom c (a.dom c h)
  own c h := by
    rcases b.own c h with q | q
    · exact a.own c q
    · refine .inr ?_
      cases e : H c with
      | none => rfl
      | some o => exact absurd q (a.dom c (by rw [e]; intro z; cases z))
theorem Ext.nil_same (e : Ext [] H as1 H1) : Same H H1 := fun b o h => e.same b o h List.not_mem_nil
/-- what is in sight stays in sight -/
theorem Ext.sight {S : List Addr} (e : Ext as H as1 H1) (hS : ∀ a ∈ as1, H a = none → True) : Same (hide (S ++ as) H) (hide (S ++ as1) H1) := fun b o h => by
  obtain ⟨h1, h2⟩ := hide_some h
  have n1 : b ∉ S := fun z => h1 (List.mem_append_left _ z)
  have n2 : b ∉ as := fun z => h1 (List.mem_append_right _ z)
  have n3 : b ∉ as1 := fun z => by
    rcases e.own b z with q | q
    · exact n2 q
    · rw [q] at h2; cases h2
  rw [hide_out fun z => (List.mem_append.mp z).elim n1 n3]
  exact e.same b o h2 n2
end
end Py

set_option Elab.async false
set_option linter.all false
set_option maxRecDepth 100000
set_option maxHeartbeats 1000000
/-! Py, part B: judgements of expressions, tests, arguments; the rules. -/
namespace Py
open PySem PySem.Spec L2
open Rp (rp)

structure CtxOk (X : Cx) (W : WX) (lv : Nat) : Prop where
  calm : X.calm = true
  nd : X.N.Nodup
  tk : L2N.Takes X W
  po : PassesOwn (model X.prog X.w) X.A X.env X.xe
  room : Room lv X.A

/-- an own error, as it stands -/
def ExR (K : PySem.W.Frag) (H : Hp) (c : Value) (d : Option Addr) (e : Ex) : Prop :=
  c = .ref (He.ga K (Str.ofString e.cls)) ∧ ∃ dx fs, d = some dx ∧ H dx = some (.xd fs) ∧ Paired (fun (p : Str × V) (q : String × PyData) => p.1 = Str.ofString q.1 ∧ Dp K H p.2 q.2) fs e.fs
def ErrX (X : Cx) (W : WX) (S own : List Addr) (σ : St) (H : Hp) (e : Ex) : Prop := ∀ H' c d, Same H H' → ExR X.K (hide (S ++ own) H') c d e → W c d σ H'
theorem ErrX.mono {X : Cx} {W : WX} {S own : List Addr} {σ : St} {H H1 : Hp} {e : Ex} (h : ErrX X W S own σ H e) (s : Same H H1) : ErrX X W S own σ H1 e := fun H' c d s1 x => h H' c d (s.trans s1) x

/-- what is in sight of a value: all that is kept is out of sight, or only what the callers keep -/
def reg (g : Bool) (S own : List Addr) : List Addr := if g then S ++ own else S
theorem reg_sub {g : Bool} {S own : List Addr} : ∀ a, a ∈ reg g S own → a ∈ S ++ own := fun a h => by
  cases g with
  | true => exact h
  | false => exact List.mem_append_left _ h
theorem S_sub_reg {g : Bool} {S own : List Addr} : ∀ a, a ∈ S → a ∈ reg g S own := fun a h => by
  cases g with
  | true => exact List.mem_append_left _ h
  | false => exact h

abbrev EGp (X : Cx) (W : WX) (g : Bool) (ρ : List Slot) (t : TE) {T : Type} [Rp T] (m : Res T) : Prop :=
  ∀ (S own : List Addr) (σ : St) (H : Hp) (Q : VK), RS X.K S ρ σ H own → Post m (fun x => ∀ H' v, Same H H' → rp X.K (hide (reg g S own) H') v x → Q v H') (ErrX X W S own σ H) → t σ H Q
structure EG (X : Cx) (W : WX) (g : Bool) (ρ : List Slot) (e : Expr) {T : Type} [Rp T] (m : Res T) : Prop where
  ex : ∃ t, PE X e t ∧ EGp X W g ρ t m
abbrev EJ (X : Cx) (W : WX) (ρ : List Slot) (e : Expr) {T : Type} [Rp T] (m : Res T) : Prop := EG X W true ρ e m
abbrev EB (X : Cx) (W : WX) (ρ : List Slot) (e : Expr) {T : Type} [Rp T] (m : Res T) : Prop := EG X W false ρ e m

abbrev TJp (X : Cx) (W : WX) (ρ : List Slot) (t : TT) (m : Res Bool) : Prop :=
  ∀ (S own : List Addr) (σ : St) (H : Hp) (Q : Bool → Hp → Prop), RS X.K S ρ σ H own → Post m (fun b => ∀ H', Same H H' → Q b H') (ErrX X W S own σ H) → t σ H Q
structure TJ (X : Cx) (W : WX) (ρ : List Slot) (e : Expr) (m : Res Bool) : Prop where
  ex : ∃ t, PT X e t ∧ TJp X W ρ t m
structure TWJ (X : Cx) (W : WX) (ρ : List Slot) (e : Expr) (m : Res Bool) : Prop where
  ex : ∃ t, PW X e t ∧ TJp X W ρ t m

/-- a comparison -/
structure CJ (X : Cx) (W : WX) (ρ : List Slot) (op : CmpOp) (a b : Expr) (m : Res Bool) : Prop where
  ex : ∃ (r : R2) (ta tb : TE), OpR X (compareOp op) r ∧ behindInMarks op b = false ∧ PE X a ta ∧ PE X b tb ∧
    ∀ (S own : List Addr) (σ : St) (H : Hp) (Q : Bool → Hp → Prop) (R : V → Hp → Prop), RS X.K S ρ σ H own → Post m (fun x => ∀ H', Same H H' → Q x H') (ErrX X W S own σ H) → (∀ z H', Q z H' → R (.bl z) H') → tOp r ta tb σ H R
abbrev AJp (X : Cx) (W : WX) (g : Bool) (ρ : List Slot) (t : TA) {A R : Type} (as : A → List AV) (k : A → Res R) (m : Res R) : Prop :=
  ∀ (S own : List Addr) (σ : St) (H : Hp) (Q : List V → Hp → Prop) (P : R → Prop) (E : Ex → Prop), RS X.K S ρ σ H own → (∀ e, E e → ErrX X W S own σ H e) → Post m P E →
    (∀ x vs H', Same H H' → ArgsR X.K (hide (reg g S own) H') vs (as x) → Post (k x) P E → Q vs H') → t σ H Q
/-- arguments, evaluated ahead of k -/
structure AJ (X : Cx) (W : WX) (g : Bool) (ρ : List Slot) (es : List Expr) {A R : Type} (as : A → List AV) (k : A → Res R) (m : Res R) : Prop where
  ex : ∃ t, PA X es t ∧ AJp X W g ρ t as k m

section
variable {X : Cx} {W : WX} {g : Bool} {ρ : List Slot} {T A B C R : Type} [Rp T] [Rp A] [Rp B] [Rp C] [Rp R] {a b e : Expr} {pos : Pos} {lv : Nat}
theorem EG.borrow {m : Res T} (h : EG X W true ρ e m) : EG X W false ρ e m := by
  obtain ⟨t, p, q⟩ := h.ex
  refine ⟨t, p, fun S own σ H Q rs hp => q S own σ H Q rs (hp.imp (fun x hx H' v s r => hx H' v s (Rp.mono (hide_mono fun z hz => List.mem_append_left _ hz) r)) fun _ z => z)⟩
theorem EG.of_eq {m m' : Res T} (h : EG X W g ρ e m) (z : m = m') : EG X W g ρ e m' := z ▸ h
/-- a flat value is in sight everywhere -/
theorem EG.flat [Flat T] {g' : Bool} {m : Res T} (h : EG X W g ρ e m) : EG X W g' ρ e m := by
  obtain ⟨t, p, q⟩ := h.ex
  exact ⟨t, p, fun S own σ H Q rs hp => q S own σ H Q rs (hp.imp (fun x hx H' v s r => hx H' v s (Flat.any r)) fun _ z => z)⟩

/-! ### two parts, one part -/
theorem one_run {ga : Bool} {ta : TE} {ma : Res A} {f : A → Res C} {P : C → Prop} {S own : List Addr} {σ : St} {H : Hp} {R' : V → Hp → Prop} (ha : EGp X W ga ρ ta ma) (rs : RS X.K S ρ σ H own)
    (h : Post (ma.bind f) P (ErrX X W S own σ H)) (k : ∀ x v H', Same H H' → rp X.K (hide (reg ga S own) H') v x → Post (f x) P (ErrX X W S own σ H) → R' v H') : ta σ H R' :=
  ha S own σ H _ rs (h.bind.imp (fun x hx H1 v s1 r1 => k x v H1 s1 r1 hx) fun _ z => z)
theorem two_run {ga gb : Bool} {ta tb : TE} {ma : Res A} {mb : Res B} {f : A → B → Res C} {P : C → Prop} {S own : List Addr} {σ : St} {H : Hp} {R' : V → V → Hp → Prop} (ha : EGp X W ga ρ ta ma) (hb : EGp X W gb ρ tb mb) (rs : RS X.K S ρ σ H own)
    (h : Post (ma.bind fun x => mb.bind (f x)) P (ErrX X W S own σ H))
    (k : ∀ x y v u H', Same H H' → rp X.K (hide (reg ga S own) H') v x → rp X.K (hide (reg gb S own) H') u y → Post (f x y) P (ErrX X W S own σ H) → R' v u H') : ta σ H fun v H1 => tb σ H1 fun u H2 => R' v u H2 :=
  ha S own σ H _ rs (h.bind.imp (fun x hx H1 v s1 r1 => hb S own σ H1 _ (rs.mono s1) (hx.bind.imp (fun y hy H2 u s2 r2 => k x y v u H2 (s1.trans s2) (Rp.mono (hide_same s2) r1) r2 hy) fun _ z => z.mono s1)) fun _ z => z)

/-- an operator on two parts whose reading r leaves the heap and hands back a flat value -/
theorem e_binR {op : Operator} {r : R2} {f : A → B → Res C} [Flat C] {ma : Res A} {mb : Res B} (ho : OpR X (binaryOp op) r) (ha : EG X W true ρ a ma) (hb : EG X W true ρ b mb)
    (hr : ∀ (B1 B2 : List Addr) (H : Hp) (x : A) (y : B) (v u : V) (Q : VK), rp X.K (hide B1 H) v x → rp X.K (hide B2 H) u y → Post (f x y) (fun z => ∀ w', rp X.K H w' z → Q w' H) (fun _ => True) → r v u H Q)
    (hne : ∀ x y e, f x y ≠ .err e) : EG X W g ρ (.BinOp a op b pos) (ma.bind fun x => mb.bind (f x)) := by
  obtain ⟨ta, pa, qa⟩ := ha.ex
  obtain ⟨tb, pb, qb⟩ := hb.ex
  refine ⟨_, pe_op ho pa pb, fun S own σ H Q rs h => two_run qa qb rs h fun x y v u H2 s r1 r2 hp => hr _ _ H2 x y v u Q r1 r2 (hp.imp (fun z hz w' rw' => hz H2 w' s (Flat.any rw')) fun _ _ => trivial)⟩
theorem e_cmpR {op : CmpOp} {r : R2} {f : A → B → Res Bool} {ga gb : Bool} {ma : Res A} {mb : Res B} (ho : OpR X (compareOp op) r) (hm : behindInMarks op b = false) (ha : EG X W ga ρ a ma) (hb : EG X W gb ρ b mb)
    (hr : ∀ (B1 B2 : List Addr) (H : Hp) (x : A) (y : B) (v u : V) (Q : VK), rp X.K (hide B1 H) v x → rp X.K (hide B2 H) u y → Post (f x y) (fun z => Q (.bl z) H) (fun _ => True) → r v u H Q) :
    CJ X W ρ op a b (ma.bind fun x => mb.bind (f x)) := by
  obtain ⟨ta, pa, qa⟩ := ha.ex
  obtain ⟨tb, pb, qb⟩ := hb.ex
  refine ⟨r, ta, tb, ho, hm, pa, pb, fun S own σ H Q R rs h hR => two_run qa qb rs h fun x y v u H2 s r1 r2 hp => hr _ _ H2 x y v u R r1 r2 (hp.imp (fun z hz => hR z H2 (hz H2 s)) fun _ _ => trivial)⟩
theorem CJ.v {op : CmpOp} {m : Res Bool} (h : CJ X W ρ op a b m) : EG X W g ρ (.Compare a [op] [b] pos) m := by
  obtain ⟨r, ta, tb, ho, hm, pa, pb, q⟩ := h.ex
  exact ⟨_, pe_cmpR ho pa pb hm, fun S own σ H Q rs h => q S own σ H (fun z H' => Q (.bl z) H') Q rs (h.imp (fun x hx H' s => hx H' _ s rfl) fun _ z => z) fun z H' hz => hz⟩
theorem CJ.t {op : CmpOp} {m : Res Bool} (h : CJ X W ρ op a b m) : TJ X W ρ (.Compare a [op] [b] pos) m := by
  obtain ⟨r, ta, tb, ho, hm, pa, pb, q⟩ := h.ex
  exact ⟨_, pt_cmpR ho pa pb hm, fun S own σ H Q rs h => q S own σ H Q _ rs h fun z H' hz => ⟨z, rfl, hz⟩⟩
theorem CJ.of_eq {op : CmpOp} {m m' : Res Bool} (h : CJ X W ρ op a b m) (z : m = m') : CJ X W ρ op a b m' := z ▸ h

/-! ### names, constants -/
theorem e_var (i : Nat) {x : Str} {v : T} (hr : ρ[i]? = some (Slot.val T v) := by rfl) (hN : X.N[i]? = some x := by rfl) (hv : Vis X.env.scope x := by first | exact Or.inl rfl | exact Or.inr (Or.inl rfl) | exact Or.inr (Or.inr rfl))
    (hd : (x == ("__debug__" : Str)) = false := by decide) (hcd : (x == ("__classdict__" : Str)) = false := by decide) : EG X W g ρ (.Name x pos) (.ok v) := by
  refine ⟨_, pe_var hN hv hd hcd, fun S own σ H Q rs h => ?_⟩
  obtain ⟨ads, r, _, _⟩ := rs.rs
  obtain ⟨u, e, q⟩ := r.val_at hr
  exact ⟨u, e, h H u (Same.refl H) (Rp.mono (hide_mono reg_sub) q)⟩
/-- a kept list, lent -/
theorem e_own (i : Nat) {x : Str} {ao : Option Addr} {xs : List T} (hr : ρ[i]? = some (Slot.own T ao xs) := by rfl) (hN : X.N[i]? = some x := by rfl) (hv : Vis X.env.scope x := by first | exact Or.inl rfl | exact Or.inr (Or.inl rfl) | exact Or.inr (Or.inr rfl))
    (hd : (x == ("__debug__" : Str)) = false := by decide) (hcd : (x == ("__classdict__" : Str)) = false := by decide) : EG X W false ρ (.Name x pos) (.ok xs) := by
  refine ⟨_, pe_var hN hv hd hcd, fun S own σ H Q rs h => ?_⟩
  obtain ⟨ads, r, _, h3⟩ := rs.rs
  obtain ⟨a, vs, e, e1, e2, e3, _⟩ := r.own_at hr
  refine ⟨_, e, h H (.ref a) (Same.refl H) ⟨a, vs, rfl, ?_, RpAll.mono (hide_mono fun z hz => List.mem_append_left _ hz) e3⟩⟩
  show hide S H a = _
  rw [hide_out (rs.out a (h3 a e1))]
  exact e2
theorem e_const {v : V} {x : T} {e : Expr} (p : PE X e (tC v)) (h : ∀ H, rp X.K H v x) : EG X W g ρ e (.ok x) :=
  ⟨_, p, fun S own σ H Q rs q => q H v (Same.refl H) (h _)⟩
theorem e_int {i : Int} {j} : EG X W g ρ (.Constant (.int i) j pos) (.ok i) := e_const pe_int fun _ => rfl
theorem e_bool {i : Bool} {j} : EG X W g ρ (.Constant (.bool i) j pos) (.ok i) := e_const pe_bl fun _ => rfl
theorem e_str {i : Str} {j} : EG X W g ρ (.Constant (.str i) j pos) (.ok i) := e_const pe_str fun _ => rfl
theorem e_none {j} : EG X W g ρ (.Constant .none j pos) (.ok ()) := e_const pe_non fun _ => rfl
theorem e_gstr {x z : Str} (hm : ∃ t, X.mg x = some (.str z t)) (hg : Gl X x := by rfl) (hd : (x == ("__debug__" : Str)) = false := by decide) : EG X W g ρ (.Name x pos) (.ok z) := by
  obtain ⟨t, e⟩ := hm
  exact e_const (v := .str z) (pe_glob hg e ⟨t, rfl⟩ hd) fun _ => rfl
theorem e_gint {x : Str} {z : Int} (hm : ∃ t, X.mg x = some (.int z t)) (hg : Gl X x := by rfl) (hd : (x == ("__debug__" : Str)) = false := by decide) : EG X W g ρ (.Name x pos) (.ok z) := by
  obtain ⟨t, e⟩ := hm
  exact e_const (v := .int z) (pe_glob hg e ⟨t, rfl⟩ hd) fun _ => rfl
/-- a tuple of the module's top -/
theorem e_gtup {x : Str} {vs : List V} {z : Tup T} (hm : X.mg x = some (.ref (He.ga X.K x))) (hs : ∀ H, SqT X.K H (He.ga X.K x) vs) (hz : ∀ H, RpAll X.K H vs z.l) (hg : Gl X x := by rfl) (hd : (x == ("__debug__" : Str)) = false := by decide) : EG X W g ρ (.Name x pos) (.ok z) :=
  e_const (v := .ref (He.ga X.K x)) (pe_glob hg hm rfl hd) fun H => ⟨_, vs, rfl, hs H, hz H⟩

/-! ### whole numbers -/
/-- a product that the model takes -/
def mulOk (x y : Int) : Bool := (decide (-(2 ^ 64) < x) && decide (x < 2 ^ 64)) || (decide (-(2 ^ 64) < y) && decide (y < 2 ^ 64)) || decide (x.natAbs.log2 + y.natAbs.log2 < 1000000)
def mulM (x y : Int) : Res Int := guardR (mulOk x y) (.ok (x * y))
theorem op_mulA : OpR X (binaryOp .Mult) (rI (fun i j => mulOk i j = true) fun i j => .int (i * j)) := by
  have o : OpR X (binaryOp .Mult) (fun x y H Q => rI CMul (fun i j => .int (i * j)) x y H Q ∨ rI CMulW (fun i j => .int (i * j)) x y H Q) := op_mul.or op_mulW
  intro pins s σ H x y v u Q I rx ry hr
  refine o pins s σ H x y v u Q I rx ry ?_
  obtain ⟨i, j, e1, e2, c, q⟩ := hr
  unfold mulOk at c
  simp only [Bool.or_eq_true, Bool.and_eq_true, decide_eq_true_eq] at c
  rcases c with (c | c) | c
  · exact .inl ⟨i, j, e1, e2, .inl c, q⟩
  · exact .inl ⟨i, j, e1, e2, .inr c, q⟩
  · exact .inr ⟨i, j, e1, e2, c, q⟩
theorem e_add {ma mb : Res Int} (ha : EG X W true ρ a ma) (hb : EG X W true ρ b mb) : EG X W g ρ (.BinOp a .Add b pos) (ma.bind fun x => mb.bind fun y => .ok (x + y)) :=
  e_binR (f := fun x y => .ok (x + y)) op_add ha hb (fun _ _ H x y v u Q r1 r2 h => ⟨x, y, r1, r2, h _ rfl⟩) (fun _ _ _ h => nomatch h)
theorem e_sub {ma mb : Res Int} (ha : EG X W true ρ a ma) (hb : EG X W true ρ b mb) : EG X W g ρ (.BinOp a .Sub b pos) (ma.bind fun x => mb.bind fun y => .ok (x - y)) :=
  e_binR (f := fun x y => .ok (x - y)) op_sub ha hb (fun _ _ H x y v u Q r1 r2 h => ⟨x, y, r1, r2, h _ rfl⟩) (fun _ _ _ h => nomatch h)
theorem guard_ne {α : Type} {c : Bool} {x : α} (e : Ex) : guardR c (.ok x) ≠ Res.err e := by
  unfold guardR
  split <;> intro h <;> cases h
theorem e_mul {ma mb : Res Int} (ha : EG X W true ρ a ma) (hb : EG X W true ρ b mb) : EG X W g ρ (.BinOp a .Mult b pos) (ma.bind fun x => mb.bind fun y => mulM x y) :=
  e_binR (f := mulM) op_mulA ha hb (fun _ _ H x y v u Q r1 r2 h => ⟨x, y, r1, r2, h.guard.1, h.guard.2 _ rfl⟩) (fun _ _ e => guard_ne e)
/-- floor division by what is not 0 and of at most 9000 bits -/
def divOk (y : Int) : Bool := decide (y ≠ 0) && decide (y.natAbs.log2 < 9000)
def divM (x y : Int) : Res Int := guardR (divOk y) (.ok (x.fdiv y))
theorem op_fdivA : OpR X (binaryOp .FloorDiv) (rI (fun _ j => divOk j = true) fun i j => .int (i.fdiv j)) := opI fun i j _ _ _ _ _ hc q => by
  unfold divOk at hc
  simp only [Bool.and_eq_true, decide_eq_true_eq] at hc
  exact PyProof.Rows.floordiv_int hc.1 q (.inl (PyProof.noPylong_of_log2 hc.2))
theorem e_fdiv {ma mb : Res Int} (ha : EG X W true ρ a ma) (hb : EG X W true ρ b mb) : EG X W g ρ (.BinOp a .FloorDiv b pos) (ma.bind fun x => mb.bind fun y => divM x y) :=
  e_binR (f := divM) op_fdivA ha hb (fun _ _ H x y v u Q r1 r2 h => ⟨x, y, r1, r2, h.guard.1, h.guard.2 _ rfl⟩) (fun _ _ e => guard_ne e)
def modM (x y : Int) : Res Int := guardR (decide (y ≠ 0)) (.ok (x.fmod y))
theorem e_mod {ma mb : Res Int} (ha : EG X W true ρ a ma) (hb : EG X W true ρ b mb) : EG X W g ρ (.BinOp a .Mod b pos) (ma.bind fun x => mb.bind fun y => modM x y) :=
  e_binR (f := modM) op_modN ha hb (fun _ _ H x y v u Q r1 r2 h => ⟨x, y, r1, r2, of_decide_eq_true h.guard.1, h.guard.2 _ rfl⟩) (fun _ _ e => guard_ne e)
def powM (x y : Int) : Res Int := guardR (decide (0 ≤ y) && (decide (y ≤ 1000000) && decide (x.natAbs < 2 ^ 64))) (.ok (x ^ y.toNat))
theorem e_pow {ma mb : Res Int} (ha : EG X W true ρ a ma) (hb : EG X W true ρ b mb) : EG X W g ρ (.BinOp a .Pow b pos) (ma.bind fun x => mb.bind fun y => powM x y) :=
  e_binR (f := powM) op_pow ha hb (fun _ _ H x y v u Q r1 r2 h => ⟨x, y, r1, r2, by
    have c := h.guard.1
    simp only [Bool.and_eq_true, decide_eq_true_eq] at c
    exact c, h.guard.2 _ rfl⟩) (fun _ _ e => guard_ne e)
theorem e_unR {op : UnaryOp} {r : V → Hp → VK → Prop} {f : A → Res C} [Flat C] {ma : Res A} (ho : UnR X (unaryOp op) r) (ha : EG X W true ρ a ma)
    (hr : ∀ (B1 : List Addr) (H : Hp) (x : A) (v : V) (Q : VK), rp X.K (hide B1 H) v x → Post (f x) (fun z => ∀ w', rp X.K H w' z → Q w' H) (fun _ => True) → r v H Q) : EG X W g ρ (.UnaryOp op a pos) (ma.bind f) := by
  obtain ⟨ta, pa, qa⟩ := ha.ex
  refine ⟨_, pe_un ho pa, fun S own σ H Q rs h => one_run (R' := fun v H2 => r v H2 Q) qa rs h fun x v H2 s r1 hp => hr _ H2 x v Q r1 (hp.imp (fun z hz w' rw' => hz H2 w' s (Flat.any rw')) fun _ _ => trivial)⟩
theorem e_neg {ma : Res Int} (ha : EG X W true ρ a ma) : EG X W g ρ (.UnaryOp .USub a pos) (ma.bind fun x => .ok (-x)) :=
  e_unR (f := fun x => .ok (-x)) un_neg ha (fun _ H x v Q r1 h => ⟨x, r1, h _ rfl⟩)

/-! ### comparisons -/
theorem e_lt {ma mb : Res Int} (ha : EG X W true ρ a ma) (hb : EG X W true ρ b mb) : CJ X W ρ .Lt a b (ma.bind fun x => mb.bind fun y => .ok (decide (x < y))) :=
  e_cmpR (f := fun x y => .ok (decide (x < y))) op_lt (nomark _) ha hb (fun _ _ H x y v u Q r1 r2 h => ⟨x, y, r1, r2, h⟩)
theorem e_le {ma mb : Res Int} (ha : EG X W true ρ a ma) (hb : EG X W true ρ b mb) : CJ X W ρ .LtE a b (ma.bind fun x => mb.bind fun y => .ok (decide (x ≤ y))) :=
  e_cmpR (f := fun x y => .ok (decide (x ≤ y))) op_le (nomark _) ha hb (fun _ _ H x y v u Q r1 r2 h => ⟨x, y, r1, r2, h⟩)
theorem e_gt {ma mb : Res Int} (ha : EG X W true ρ a ma) (hb : EG X W true ρ b mb) : CJ X W ρ .Gt a b (ma.bind fun x => mb.bind fun y => .ok (decide (y < x))) :=
  e_cmpR (f := fun x y => .ok (decide (y < x))) op_gt (nomark _) ha hb (fun _ _ H x y v u Q r1 r2 h => ⟨x, y, r1, r2, h⟩)
theorem e_ge {ma mb : Res Int} (ha : EG X W true ρ a ma) (hb : EG X W true ρ b mb) : CJ X W ρ .GtE a b (ma.bind fun x => mb.bind fun y => .ok (decide (y ≤ x))) :=
  e_cmpR (f := fun x y => .ok (decide (y ≤ x))) op_ge (nomark _) ha hb (fun _ _ H x y v u Q r1 r2 h => ⟨x, y, r1, r2, h⟩)
/-- kinds whose values are compared by what they are -/
class Scal (T : Type) [Rp T] [DecidableEq T] where
  toV : T → V
  sc : ∀ x y : T, scal (toV x) (toV y) = true
  rel : ∀ {K : PySem.W.Frag} {H : Hp} {v : V} {x : T}, rp K H v x → v = toV x
  inj : ∀ x y : T, toV x = toV y → x = y
instance : Scal Int := { toV := .int, sc := fun _ _ => rfl, rel := fun h => h, inj := fun _ _ h => V.int.inj h }
instance : Scal Bool := { toV := .bl, sc := fun _ _ => rfl, rel := fun h => h, inj := fun _ _ h => V.bl.inj h }
instance : Scal Str := { toV := .str, sc := fun _ _ => rfl, rel := fun h => h, inj := fun _ _ h => V.str.inj h }
theorem Scal.dec {T : Type} [Rp T] [DecidableEq T] [Scal T] (x y : T) : decide (Scal.toV x = Scal.toV y) = decide (x = y) := by
  by_cases h : x = y
  · rw [h, decide_eq_true rfl, decide_eq_true rfl]
  · rw [decide_eq_false h, decide_eq_false fun z => h (Scal.inj x y z)]
theorem e_eq [DecidableEq T] [Scal T] {ma mb : Res T} (ha : EG X W true ρ a ma) (hb : EG X W true ρ b mb) : CJ X W ρ .Eq a b (ma.bind fun x => mb.bind fun y => .ok (decide (x = y))) :=
  e_cmpR (f := fun x y => .ok (decide (x = y))) op_eq (nomark _) ha hb (fun _ _ H x y v u Q r1 r2 h => by
    rw [Scal.rel r1, Scal.rel r2]
    refine ⟨Scal.sc x y, ?_⟩
    rw [Scal.dec]
    exact h)
theorem e_ne [DecidableEq T] [Scal T] {ma mb : Res T} (ha : EG X W true ρ a ma) (hb : EG X W true ρ b mb) : CJ X W ρ .NotEq a b (ma.bind fun x => mb.bind fun y => .ok (!decide (x = y))) :=
  e_cmpR (f := fun x y => .ok (!decide (x = y))) op_ne (nomark _) ha hb (fun _ _ H x y v u Q r1 r2 h => by
    rw [Scal.rel r1, Scal.rel r2]
    refine ⟨Scal.sc x y, ?_⟩
    rw [Scal.dec]
    exact h)

/-! ### tests, and, or, not, if .. else -/
theorem t_val {m : Res Bool} (h : EG X W true ρ e m) (he : ∀ whole, isTrue e X.env whole = (do let v ← whole; standAt e.pos; holding [v] (truthy v)) := by intro _; rfl) : TJ X W ρ e m := by
  obtain ⟨t, p, q⟩ := h.ex
  refine ⟨_, pt_val p he, fun S own σ H Q rs hp => q S own σ H _ rs (hp.imp (fun x hx H' v s r => ⟨x, r, hx H' s⟩) fun _ z => z)⟩
theorem t_not {m : Res Bool} (h : TJ X W ρ a m) : TJ X W ρ (.UnaryOp .Not a pos) (m.bind fun b => .ok (!b)) := by
  obtain ⟨t, p, q⟩ := h.ex
  refine ⟨_, pt_not p, fun S own σ H Q rs hp => q S own σ H _ rs (hp.bind.imp (fun x hx H' s => hx H' s) fun _ z => z)⟩
theorem tw_and1 {m : Res Bool} (h : TJ X W ρ a m) : TWJ X W ρ (.BoolOp .And [a] pos) m := by
  obtain ⟨t, p, q⟩ := h.ex
  exact ⟨_, pw_and1 p, q⟩
theorem tw_or1 {m : Res Bool} (h : TJ X W ρ a m) : TWJ X W ρ (.BoolOp .Or [a] pos) m := by
  obtain ⟨t, p, q⟩ := h.ex
  exact ⟨_, pw_or1 p, q⟩
def andM (m n : Res Bool) : Res Bool := m.bind fun b => if b then n else .ok false
def orM (m n : Res Bool) : Res Bool := m.bind fun b => if b then .ok true else n
theorem andM_ok (x y : Bool) : andM (.ok x) (.ok y) = .ok (x && y) := by cases x <;> rfl
theorem orM_ok (x y : Bool) : orM (.ok x) (.ok y) = .ok (x || y) := by cases x <;> rfl
theorem and_run {ta tb : TT} {m n : Res Bool} {S own : List Addr} {σ : St} {H : Hp} {Q : Bool → Hp → Prop} (qa : TJp X W ρ ta m) (qb : TJp X W ρ tb n) (rs : RS X.K S ρ σ H own) (hp : Post (andM m n) (fun b => ∀ H', Same H H' → Q b H') (ErrX X W S own σ H)) : tAnd ta tb σ H Q :=
  qa S own σ H _ rs (hp.bind.imp (fun x hx H1 s => by
    cases x with
    | true =>
      show if true = true then _ else _
      rw [if_pos rfl]
      exact qb S own σ H1 Q (rs.mono s) (Post.imp (show Post n _ _ from hx) (fun y hy H2 s2 => hy H2 (s.trans s2)) fun _ z => z.mono s)
    | false =>
      show if false = true then _ else _
      rw [if_neg Bool.false_ne_true]
      exact hx H1 s) fun _ z => z)
theorem or_run {ta tb : TT} {m n : Res Bool} {S own : List Addr} {σ : St} {H : Hp} {Q : Bool → Hp → Prop} (qa : TJp X W ρ ta m) (qb : TJp X W ρ tb n) (rs : RS X.K S ρ σ H own) (hp : Post (orM m n) (fun b => ∀ H', Same H H' → Q b H') (ErrX X W S own σ H)) : tOr ta tb σ H Q :=
  qa S own σ H _ rs (hp.bind.imp (fun x hx H1 s => by
    cases x with
    | false =>
      show if false = true then _ else _
      rw [if_neg Bool.false_ne_true]
      exact qb S own σ H1 Q (rs.mono s) (Post.imp (show Post n _ _ from hx) (fun y hy H2 s2 => hy H2 (s.trans s2)) fun _ z => z.mono s)
    | true =>
      show if true = true then _ else _
      rw [if_pos rfl]
      exact hx H1 s) fun _ z => z)
theorem tw_and {m n : Res Bool} {rest : List Expr} (h : TJ X W ρ a m) (h2 : TWJ X W ρ (.BoolOp .And (b :: rest) pos) n) : TWJ X W ρ (.BoolOp .And (a :: b :: rest) pos) (andM m n) := by
  obtain ⟨ta, pa, qa⟩ := h.ex
  obtain ⟨tb, pb, qb⟩ := h2.ex
  exact ⟨_, pw_and pa pb, fun S own σ H Q rs hp => and_run qa qb rs hp⟩
theorem tw_or {m n : Res Bool} {rest : List Expr} (h : TJ X W ρ a m) (h2 : TWJ X W ρ (.BoolOp .Or (b :: rest) pos) n) : TWJ X W ρ (.BoolOp .Or (a :: b :: rest) pos) (orM m n) := by
  obtain ⟨ta, pa, qa⟩ := h.ex
  obtain ⟨tb, pb, qb⟩ := h2.ex
  exact ⟨_, pw_or pa pb, fun S own σ H Q rs hp => or_run qa qb rs hp⟩
theorem TWJ.pt {m : Res Bool} (h : TWJ X W ρ e m) : TJ X W ρ e m := by
  obtain ⟨t, p, q⟩ := h.ex
  exact ⟨t, PW.pt p, q⟩
theorem e_and1 {op} {m : Res Bool} (h : EG X W true ρ a m) : EG X W g ρ (.BoolOp op [a] pos) m := by
  obtain ⟨t, p, q⟩ := (h.flat (g' := g)).ex
  exact ⟨_, pe_one p, q⟩
theorem e_and {m n : Res Bool} {rest : List Expr} (h : EG X W true ρ a m) (h2 : EG X W true ρ (.BoolOp .And (b :: rest) pos) n) : EG X W g ρ (.BoolOp .And (a :: b :: rest) pos) (andM m n) := by
  obtain ⟨ta, pa, qa⟩ := h.ex
  obtain ⟨tb, pb, qb⟩ := h2.ex
  refine ⟨_, pe_and pa pb, fun S own σ H Q rs hp => qa S own σ H _ rs (hp.bind.imp (fun x hx H1 v s r => ⟨x, r, ?_⟩) fun _ z => z)⟩
  cases x with
  | true =>
    rw [if_pos rfl]
    exact qb S own σ H1 Q (rs.mono s) (Post.imp (show Post n _ _ from hx) (fun y hy H2 v s2 r2 => hy H2 v (s.trans s2) (Flat.any r2)) fun _ z => z.mono s)
  | false =>
    rw [if_neg Bool.false_ne_true]
    exact hx H1 (.bl false) s rfl
theorem e_or {m n : Res Bool} {rest : List Expr} (h : EG X W true ρ a m) (h2 : EG X W true ρ (.BoolOp .Or (b :: rest) pos) n) : EG X W g ρ (.BoolOp .Or (a :: b :: rest) pos) (orM m n) := by
  obtain ⟨ta, pa, qa⟩ := h.ex
  obtain ⟨tb, pb, qb⟩ := h2.ex
  refine ⟨_, pe_or pa pb, fun S own σ H Q rs hp => qa S own σ H _ rs (hp.bind.imp (fun x hx H1 v s r => ⟨x, r, ?_⟩) fun _ z => z)⟩
  cases x with
  | true =>
    rw [if_pos rfl]
    exact hx H1 (.bl true) s rfl
  | false =>
    rw [if_neg Bool.false_ne_true]
    exact qb S own σ H1 Q (rs.mono s) (Post.imp (show Post n _ _ from hx) (fun y hy H2 v s2 r2 => hy H2 v (s.trans s2) (Flat.any r2)) fun _ z => z.mono s)
theorem e_not {m : Res Bool} (h : EG X W true ρ a m) : EG X W g ρ (.UnaryOp .Not a pos) (m.bind fun b => .ok (!b)) := by
  obtain ⟨t, p, q⟩ := h.ex
  exact ⟨_, pe_not p, fun S own σ H Q rs hp => q S own σ H _ rs (hp.bind.imp (fun x hx H' v s r => ⟨x, r, hx H' _ s rfl⟩) fun _ z => z)⟩
theorem e_if {c : Expr} {mc : Res Bool} {m n : Res T} (hc : TJ X W ρ c mc) (h : EG X W g ρ a m) (h2 : EG X W g ρ b n) : EG X W g ρ (.IfExp c a b pos) (mc.bind fun k => if k then m else n) := by
  obtain ⟨tc, pc, qc⟩ := hc.ex
  obtain ⟨ta, pa, qa⟩ := h.ex
  obtain ⟨tb, pb, qb⟩ := h2.ex
  refine ⟨_, pe_ifExp pc pa pb, fun S own σ H Q rs hp => qc S own σ H _ rs (hp.bind.imp (fun x hx H1 s => ?_) fun _ z => z)⟩
  cases x with
  | true =>
    rw [if_pos rfl]
    exact qa S own σ H1 Q (rs.mono s) (Post.imp (show Post m _ _ from hx) (fun y hy H2 v s2 r2 => hy H2 v (s.trans s2) r2) fun _ z => z.mono s)
  | false =>
    rw [if_neg Bool.false_ne_true]
    exact qb S own σ H1 Q (rs.mono s) (Post.imp (show Post n _ _ from hx) (fun y hy H2 v s2 r2 => hy H2 v (s.trans s2) r2) fun _ z => z.mono s)

/-! ### arguments -/
theorem a_nil {k : Unit → Res R} : AJ X W g ρ [] asN k (k ()) :=
  ⟨_, pa_nil, fun S own σ H Q P E rs hE h q => q () [] H (Same.refl H) .nil h⟩
theorem a_cons {es : List Expr} {A : Type} {as : A → List AV} {k : T × A → Res R} {m1 : Res T} {m2 : T → Res R} (h1 : EG X W g ρ e m1) (h2 : ∀ x, AJ X W g ρ es as (fun xs => k (x, xs)) (m2 x))
    (hs : starEach (e :: es) X.env = (false, eval e X.env) :: starEach es X.env := by rfl) : AJ X W g ρ (e :: es) (asC as) k (m1.bind m2) := by
  obtain ⟨t1, p1, q1⟩ := h1.ex
  have dead : PA X es (fun _ _ _ => False) := ⟨fun _ _ _ _ _ _ _ h => h.elim⟩
  cases m1 with
  | bad => exact ⟨_, pa_cons p1 dead hs, fun S own σ H Q P E rs hE h q => h.elim⟩
  | err z => exact ⟨_, pa_cons p1 dead hs, fun S own σ H Q P E rs hE h q => q1 S own σ H _ rs (hE z h)⟩
  | ok x =>
    obtain ⟨t2, p2, q2⟩ := (h2 x).ex
    exact ⟨_, pa_cons p1 p2 hs, fun S own σ H Q P E rs hE h q => q1 S own σ H _ rs fun H1 v s1 r1 => q2 S own σ H1 _ P E (rs.mono s1) (fun e z => (hE e z).mono s1) h fun xs vs H2 s2 r2 hk =>
      q (x, xs) (v :: vs) H2 (s1.trans s2) (.cons (Rp.mono (hide_same s2) r1) r2) hk⟩
theorem a_consp {es : List Expr} {A : Type} {as : A → List AV} {k : T × A → Res R} {x : T} {m : Res R} (h1 : EG X W g ρ e (.ok x)) (h2 : AJ X W g ρ es as (fun xs => k (x, xs)) m)
    (hs : starEach (e :: es) X.env = (false, eval e X.env) :: starEach es X.env := by rfl) : AJ X W g ρ (e :: es) (asC as) k m := by
  obtain ⟨t1, p1, q1⟩ := h1.ex
  obtain ⟨t2, p2, q2⟩ := h2.ex
  exact ⟨_, pa_cons p1 p2 hs, fun S own σ H Q P E rs hE h q => q1 S own σ H _ rs fun H1 v s1 r1 => q2 S own σ H1 _ P E (rs.mono s1) (fun e z => (hE e z).mono s1) h fun xs vs H2 s2 r2 hk =>
      q (x, xs) (v :: vs) H2 (s1.trans s2) (.cons (Rp.mono (hide_same s2) r1) r2) hk⟩
/-! ### the same where the parts are values -/
variable {x y : Int} {p q : Bool}
theorem e_addp (ha : EG X W true ρ a (.ok x)) (hb : EG X W true ρ b (.ok y)) : EG X W g ρ (.BinOp a .Add b pos) (.ok (x + y)) := e_add ha hb
theorem e_subp (ha : EG X W true ρ a (.ok x)) (hb : EG X W true ρ b (.ok y)) : EG X W g ρ (.BinOp a .Sub b pos) (.ok (x - y)) := e_sub ha hb
theorem e_mulp (ha : EG X W true ρ a (.ok x)) (hb : EG X W true ρ b (.ok y)) : EG X W g ρ (.BinOp a .Mult b pos) (mulM x y) := e_mul ha hb
theorem e_fdivp (ha : EG X W true ρ a (.ok x)) (hb : EG X W true ρ b (.ok y)) : EG X W g ρ (.BinOp a .FloorDiv b pos) (divM x y) := e_fdiv ha hb
theorem e_modp (ha : EG X W true ρ a (.ok x)) (hb : EG X W true ρ b (.ok y)) : EG X W g ρ (.BinOp a .Mod b pos) (modM x y) := e_mod ha hb
theorem e_powp (ha : EG X W true ρ a (.ok x)) (hb : EG X W true ρ b (.ok y)) : EG X W g ρ (.BinOp a .Pow b pos) (powM x y) := e_pow ha hb
theorem e_negp (ha : EG X W true ρ a (.ok x)) : EG X W g ρ (.UnaryOp .USub a pos) (.ok (-x)) := e_neg ha
theorem e_ltp (ha : EG X W true ρ a (.ok x)) (hb : EG X W true ρ b (.ok y)) : CJ X W ρ .Lt a b (.ok (decide (x < y))) := e_lt ha hb
theorem e_lep (ha : EG X W true ρ a (.ok x)) (hb : EG X W true ρ b (.ok y)) : CJ X W ρ .LtE a b (.ok (decide (x ≤ y))) := e_le ha hb
theorem e_gtp (ha : EG X W true ρ a (.ok x)) (hb : EG X W true ρ b (.ok y)) : CJ X W ρ .Gt a b (.ok (decide (y < x))) := e_gt ha hb
theorem e_gep (ha : EG X W true ρ a (.ok x)) (hb : EG X W true ρ b (.ok y)) : CJ X W ρ .GtE a b (.ok (decide (y ≤ x))) := e_ge ha hb
theorem e_eqp [DecidableEq T] [Scal T] {x y : T} (ha : EG X W true ρ a (.ok x)) (hb : EG X W true ρ b (.ok y)) : CJ X W ρ .Eq a b (.ok (decide (x = y))) := e_eq ha hb
theorem e_nep [DecidableEq T] [Scal T] {x y : T} (ha : EG X W true ρ a (.ok x)) (hb : EG X W true ρ b (.ok y)) : CJ X W ρ .NotEq a b (.ok (!decide (x = y))) := e_ne ha hb
theorem t_notp (h : TJ X W ρ a (.ok p)) : TJ X W ρ (.UnaryOp .Not a pos) (.ok (!p)) := t_not h
theorem tw_andp {rest : List Expr} (h : TJ X W ρ a (.ok p)) (h2 : TWJ X W ρ (.BoolOp .And (b :: rest) pos) (.ok q)) : TWJ X W ρ (.BoolOp .And (a :: b :: rest) pos) (.ok (p && q)) := andM_ok p q ▸ tw_and h h2
theorem tw_orp {rest : List Expr} (h : TJ X W ρ a (.ok p)) (h2 : TWJ X W ρ (.BoolOp .Or (b :: rest) pos) (.ok q)) : TWJ X W ρ (.BoolOp .Or (a :: b :: rest) pos) (.ok (p || q)) := orM_ok p q ▸ tw_or h h2
theorem e_andp {rest : List Expr} (h : EG X W true ρ a (.ok p)) (h2 : EG X W true ρ (.BoolOp .And (b :: rest) pos) (.ok q)) : EG X W g ρ (.BoolOp .And (a :: b :: rest) pos) (.ok (p && q)) := andM_ok p q ▸ e_and h h2
theorem e_orp {rest : List Expr} (h : EG X W true ρ a (.ok p)) (h2 : EG X W true ρ (.BoolOp .Or (b :: rest) pos) (.ok q)) : EG X W g ρ (.BoolOp .Or (a :: b :: rest) pos) (.ok (p || q)) := orM_ok p q ▸ e_or h h2
theorem e_notp (h : EG X W true ρ a (.ok p)) : EG X W g ρ (.UnaryOp .Not a pos) (.ok (!p)) := e_not h
theorem e_ifp {c : Expr} {u v : T} (hc : TJ X W ρ c (.ok p)) (h : EG X W g ρ a (.ok u)) (h2 : EG X W g ρ b (.ok v)) : EG X W g ρ (.IfExp c a b pos) (.ok (if p then u else v)) := by
  have := e_if (pos := pos) hc h h2
  cases p <;> exact this
end
end Py

set_option Elab.async false
set_option linter.all false
set_option maxRecDepth 100000
set_option maxHeartbeats 1000000
/-! Py, part C: tuples, lists, subscripts, slices, built-in calls, calls of defs. -/
namespace Py
open PySem PySem.Spec L2
open Rp (rp)

/-- a list whose items are in sight (it may itself be kept) -/
abbrev LGp (X : Cx) (W : WX) (ρ : List Slot) (t : TE) {T : Type} [Rp T] (m : Res (List T)) : Prop :=
  ∀ (S own : List Addr) (σ : St) (H : Hp) (Q : VK), RS X.K S ρ σ H own → Post m (fun xs => ∀ H' a vs, Same H H' → H' a = some (.lst vs) → RpAll X.K (hide (S ++ own) H') vs xs → Q (.ref a) H') (ErrX X W S own σ H) → t σ H Q
structure LG (X : Cx) (W : WX) (ρ : List Slot) (e : Expr) {T : Type} [Rp T] (m : Res (List T)) : Prop where
  ex : ∃ t, PE X e t ∧ LGp X W ρ t m
/-- a new list -/
abbrev FGp (X : Cx) (W : WX) (ρ : List Slot) (t : TE) {T : Type} [Rp T] (m : Res (List T)) : Prop :=
  ∀ (S own : List Addr) (σ : St) (H : Hp) (Q : VK), RS X.K S ρ σ H own → Post m (fun xs => ∀ H' a vs, Same H H' → H a = none → H' a = some (.lst vs) → RpAll X.K (hide (a :: (S ++ own)) H') vs xs → Q (.ref a) H') (ErrX X W S own σ H) → t σ H Q
structure FG (X : Cx) (W : WX) (ρ : List Slot) (e : Expr) {T : Type} [Rp T] (m : Res (List T)) : Prop where
  ex : ∃ t, PE X e t ∧ FGp X W ρ t m

theorem RS.fresh {K : PySem.W.Frag} {S own : List Addr} {ρ : List Slot} {σ : St} {H : Hp} {p : Addr} (rs : RS K S ρ σ H own) (h : H p = none) : p ∉ S ++ own := fun z => rs.dom p z h
theorem hide_new {B : List Addr} {H : Hp} {p : Addr} {o : HO} (h : H p = none) (hp : p ∉ B) : hide (p :: B) (upd H p o) = hide B H := by
  rw [hide_upd_in List.mem_cons_self, hide_cons_new h]
theorem RpAll.length {T : Type} [Rp T] {K : PySem.W.Frag} {H : Hp} {vs : List V} {xs : List T} (h : RpAll K H vs xs) : vs.length = xs.length := Paired.length h
theorem ArgsR.length {K : PySem.W.Frag} {H : Hp} {vs : List V} {xs : List AV} (h : ArgsR K H vs xs) : vs.length = xs.length := by
  induction h with
  | nil => rfl
  | cons _ _ ih => simp [ih]
theorem ArgsR.get {K : PySem.W.Frag} {H : Hp} {vs : List V} {xs : List AV} (h : ArgsR K H vs xs) : ∀ {i : Nat} {x : AV}, xs[i]? = some x → ∃ v, vs[i]? = some v ∧ x.rp K H v := by
  induction h with
  | nil => intro i x e; cases e
  | cons r _ ih =>
    intro i x e
    cases i with
    | zero => cases e; exact ⟨_, rfl, r⟩
    | succ i => exact ih e
theorem RpAll.get {T : Type} [Rp T] {K : PySem.W.Frag} {H : Hp} : ∀ {vs : List V} {xs : List T} {i : Nat} {x : T}, RpAll K H vs xs → xs[i]? = some x → ∃ v, vs[i]? = some v ∧ rp K H v x
  | _, _, 0, _, .cons r _, e => by cases e; exact ⟨_, rfl, r⟩
  | _, _, i + 1, _, .cons _ t, e => RpAll.get (i := i) t e
  | _, _, 0, _, .nil, e => by cases e
  | _, _, i + 1, _, .nil, e => by cases e
theorem RpAll.append {T : Type} [Rp T] {K : PySem.W.Frag} {H : Hp} : ∀ {vs us : List V} {xs ys : List T}, RpAll K H vs xs → RpAll K H us ys → RpAll K H (vs ++ us) (xs ++ ys)
  | _, _, _, _, .nil, h => h
  | _, _, _, _, .cons r t, h => .cons r (RpAll.append t h)
theorem RpAll.take {T : Type} [Rp T] {K : PySem.W.Frag} {H : Hp} : ∀ {vs : List V} {xs : List T} (n : Nat), RpAll K H vs xs → RpAll K H (vs.take n) (xs.take n)
  | _, _, 0, _ => .nil
  | _, _, n + 1, .nil => .nil
  | _, _, n + 1, .cons r t => .cons r (RpAll.take n t)
theorem RpAll.drop {T : Type} [Rp T] {K : PySem.W.Frag} {H : Hp} : ∀ {vs : List V} {xs : List T} (n : Nat), RpAll K H vs xs → RpAll K H (vs.drop n) (xs.drop n)
  | _, _, 0, h => h
  | _, _, n + 1, .nil => .nil
  | _, _, n + 1, .cons r t => RpAll.drop n t
theorem RpAll.set {T : Type} [Rp T] {K : PySem.W.Frag} {H : Hp} {v : V} {x : T} (r : rp K H v x) : ∀ {vs : List V} {xs : List T} (i : Nat), RpAll K H vs xs → RpAll K H (vs.set i v) (xs.set i x)
  | _, _, _, .nil => .nil
  | _, _, 0, .cons _ t => .cons r t
  | _, _, i + 1, .cons q t => .cons q (RpAll.set r i t)
theorem RpAll.reverse {T : Type} [Rp T] {K : PySem.W.Frag} {H : Hp} : ∀ {vs : List V} {xs : List T}, RpAll K H vs xs → RpAll K H vs.reverse xs.reverse
  | _, _, .nil => .nil
  | _, _, .cons r t => by
    rw [List.reverse_cons, List.reverse_cons]
    exact RpAll.append (RpAll.reverse t) (.cons r .nil)
theorem RpAll.int {K : PySem.W.Frag} {H : Hp} : ∀ {vs : List V} {xs : List Int}, RpAll K H vs xs → vs = xs.map V.int
  | _, _, .nil => rfl
  | _, _, .cons r t => by rw [List.map_cons, ← RpAll.int t, show _ = V.int _ from r]
theorem RpAll.of_int {K : PySem.W.Frag} {H : Hp} : ∀ (xs : List Int), RpAll K H (xs.map V.int) xs
  | [] => .nil
  | _ :: t => .cons rfl (RpAll.of_int t)
theorem RpAll.str {K : PySem.W.Frag} {H : Hp} : ∀ {vs : List V} {xs : List Str}, RpAll K H vs xs → vs = xs.map V.str
  | _, _, .nil => rfl
  | _, _, .cons r t => by rw [List.map_cons, ← RpAll.str t, show _ = V.str _ from r]
theorem RpAll.of_str {K : PySem.W.Frag} {H : Hp} : ∀ (xs : List Str), RpAll K H (xs.map V.str) xs
  | [] => .nil
  | _ :: t => .cons rfl (RpAll.of_str t)
theorem RpAll.bl {K : PySem.W.Frag} {H : Hp} : ∀ {vs : List V} {xs : List Bool}, RpAll K H vs xs → vs = xs.map V.bl
  | _, _, .nil => rfl
  | _, _, .cons r t => by rw [List.map_cons, ← RpAll.bl t, show _ = V.bl _ from r]
section
variable {X : Cx} {W : WX} {g : Bool} {ρ : List Slot} {T A B C R : Type} [Rp T] [Rp A] [Rp B] [Rp C] [Rp R] {a b e : Expr} {pos : Pos} {lv : Nat}
theorem EG.lg {m : Res (List T)} (h : EG X W true ρ e m) : LG X W ρ e m := by
  obtain ⟨t, p, q⟩ := h.ex
  refine ⟨t, p, fun S own σ H Q rs hp => q S own σ H Q rs (hp.imp (fun xs hx H' v s r => ?_) fun _ z => z)⟩
  obtain ⟨a, vs, rfl, e1, e2⟩ := r
  exact hx H' a vs s (hide_sub _ _ e1) e2
theorem l_own (i : Nat) {x : Str} {ao : Option Addr} {xs : List T} (hr : ρ[i]? = some (Slot.own T ao xs) := by rfl) (hN : X.N[i]? = some x := by rfl) (hv : Vis X.env.scope x := by first | exact Or.inl rfl | exact Or.inr (Or.inl rfl) | exact Or.inr (Or.inr rfl))
    (hd : (x == ("__debug__" : Str)) = false := by decide) (hcd : (x == ("__classdict__" : Str)) = false := by decide) : LG X W ρ (.Name x pos) (.ok xs) := by
  refine ⟨_, pe_var hN hv hd hcd, fun S own σ H Q rs h => ?_⟩
  obtain ⟨ads, r, _, h3⟩ := rs.rs
  obtain ⟨a, vs, e, e1, e2, e3, _⟩ := r.own_at hr
  exact ⟨_, e, h H a vs (Same.refl H) e2 e3⟩
theorem FG.ej {m : Res (List T)} (h : FG X W ρ e m) : EG X W g ρ e m := by
  obtain ⟨t, p, q⟩ := h.ex
  refine ⟨t, p, fun S own σ H Q rs hp => q S own σ H Q rs (hp.imp (fun xs hx H' a vs s na e1 e2 => hx H' _ s ⟨a, vs, rfl, ?_, RpAll.mono (hide_mono fun z hz => List.mem_cons_of_mem _ (reg_sub z hz)) e2⟩) fun _ z => z)⟩
  rw [hide_out fun z => rs.dom a (reg_sub a z) na]
  exact e1
theorem FG.lg {m : Res (List T)} (h : FG X W ρ e m) : LG X W ρ e m := EG.lg (FG.ej h)
theorem FG.of_eq {m m' : Res (List T)} (h : FG X W ρ e m) (z : m = m') : FG X W ρ e m' := z ▸ h

theorem lone_run {ta : TE} {ma : Res (List A)} {f : List A → Res C} {P : C → Prop} {S own : List Addr} {σ : St} {H : Hp} {R' : V → Hp → Prop} (ha : LGp X W ρ ta ma) (rs : RS X.K S ρ σ H own)
    (h : Post (ma.bind f) P (ErrX X W S own σ H)) (k : ∀ xs a vs H', Same H H' → H' a = some (.lst vs) → RpAll X.K (hide (S ++ own) H') vs xs → Post (f xs) P (ErrX X W S own σ H) → R' (.ref a) H') : ta σ H R' :=
  ha S own σ H _ rs (h.bind.imp (fun x hx H1 a vs s1 r1 r2 => k x a vs H1 s1 r1 r2 hx) fun _ z => z)
theorem ltwo_run {gb : Bool} {ta tb : TE} {ma : Res (List A)} {mb : Res B} {f : List A → B → Res C} {P : C → Prop} {S own : List Addr} {σ : St} {H : Hp} {R' : V → V → Hp → Prop} (ha : LGp X W ρ ta ma) (hb : EGp X W gb ρ tb mb) (rs : RS X.K S ρ σ H own)
    (h : Post (ma.bind fun x => mb.bind (f x)) P (ErrX X W S own σ H))
    (k : ∀ xs y a vs u H', Same H H' → H' a = some (.lst vs) → RpAll X.K (hide (S ++ own) H') vs xs → rp X.K (hide (reg gb S own) H') u y → Post (f xs y) P (ErrX X W S own σ H) → R' (.ref a) u H') : ta σ H fun v H1 => tb σ H1 fun u H2 => R' v u H2 :=
  ha S own σ H _ rs (h.bind.imp (fun x hx H1 a vs s1 r1 r2 => hb S own σ H1 _ (rs.mono s1) (hx.bind.imp (fun y hy H2 u s2 r3 => k x y a vs u H2 (s1.trans s2) (s2 _ _ r1) (RpAll.mono (hide_same s2) r2) r3 hy) fun _ z => z.mono s1)) fun _ z => z)

/-! ### displays -/
theorem e_tup {es : List Expr} {A T : Type} [Places T] {as : A → List AV} {mk : A → T} {m : Res T} {x1} (h : AJ X W g ρ es as (fun x => .ok (mk x)) m) (hp : ∀ x, Places.av (mk x) = as x := by intro _; rfl)
    (hz : ∀ x, (as x).length ≤ sizeLine := by intro _; exact Nat.le_of_ble_eq_true rfl) : EG X W g ρ (.Tuple es x1 pos) m := by
  obtain ⟨t, p, q⟩ := h.ex
  refine ⟨_, pe_tup p, fun S own σ H Q rs hP => q S own σ H _ _ _ rs (fun e z => z) hP fun x vs H' s r hx => ⟨by rw [r.length]; exact hz x, fun p np => ?_⟩⟩
  have s2 : Same H' (upd H' p (.tup vs)) := same_upd np
  refine hx _ _ (s.trans s2) ⟨p, vs, rfl, .inl (.inl ?_), ?_⟩
  · rw [hide_out fun z => (rs.mono s).dom p (reg_sub p z) np, upd_same]
  · rw [hp]
    exact r.mono (hide_same s2)
theorem args_all {K : PySem.W.Frag} {H : Hp} : ∀ {vs : List V} {xs : List T}, ArgsR K H vs (xs.map av) → RpAll K H vs xs
  | _, [], .nil => .nil
  | _, _ :: _, .cons r t => .cons r (args_all t)
theorem f_list {es : List Expr} {A : Type} {as : A → List AV} {mk : A → List T} {m : Res (List T)} (h : AJ X W true ρ es as (fun x => .ok (mk x)) m) (hp : ∀ x, as x = (mk x).map av := by intro _; rfl)
    (hz : ∀ x, (mk x).length ≤ sizeLine := by intro _; exact Nat.le_of_ble_eq_true rfl) : FG X W ρ (.List es pos) m := by
  obtain ⟨t, p, q⟩ := h.ex
  refine ⟨_, pe_lst p, fun S own σ H Q rs hP => q S own σ H _ _ _ rs (fun e z => z) hP fun x vs H' s r hx => ?_⟩
  rw [hp] at r
  have r2 := args_all r
  refine ⟨by rw [r2.length]; exact hz x, fun p np => ?_⟩
  refine hx (upd H' p (.lst vs)) p vs (s.trans (same_upd np)) (s.free np) upd_same ?_
  rw [hide_new np ((rs.mono s).fresh np)]
  exact r2

/-! ### subscripts -/
def idxM {α : Type} (xs : List α) (i : Int) : Res α := match atI xs i with
  | some x => .ok x
  | none => .bad
theorem atI_rel {K : PySem.W.Frag} {H : Hp} {vs : List V} {xs : List T} (r : RpAll K H vs xs) {i : Int} {x : T} (h : atI xs i = some x) : ∃ v, atI vs i = some v ∧ rp K H v x := by
  unfold atI at h ⊢
  rw [r.length]
  cases e : ixN xs.length i with
  | none => rw [e] at h; cases h
  | some j =>
    rw [e] at h
    exact r.get (show xs[j]? = some x from h)
theorem e_ix {ma : Res (List T)} {mb : Res Int} (ha : LG X W ρ a ma) (hb : EG X W true ρ b mb) (hs : PlainIx b := by exact fun _ _ => rfl) : EG X W g ρ (.Subscript a b pos) (ma.bind fun xs => mb.bind fun i => idxM xs i) := by
  obtain ⟨ta, pa, qa⟩ := ha.ex
  obtain ⟨tb, pb, qb⟩ := hb.ex
  refine ⟨_, pe_ix ix_list pa pb hs, fun S own σ H Q rs h => ltwo_run (R' := fun v u H2 => rIxL X.K v u H2 Q) qa qb rs h fun xs i p vs u H2 s r1 r2 r3 hp => ?_⟩
  unfold idxM at hp
  cases e : atI xs i with
  | none => rw [e] at hp; exact hp.elim
  | some x =>
    rw [e] at hp
    obtain ⟨v, e2, r4⟩ := atI_rel r2 e
    exact ⟨p, vs, i, v, rfl, r3, .inl (.inl r1), e2, hp H2 v s (Rp.mono (hide_mono reg_sub) r4)⟩
theorem e_ixt {ma : Res (Tup T)} {mb : Res Int} (ha : EG X W g ρ a ma) (hb : EG X W true ρ b mb) (hs : PlainIx b := by exact fun _ _ => rfl) : EG X W g ρ (.Subscript a b pos) (ma.bind fun xs => mb.bind fun i => idxM xs.l i) := by
  obtain ⟨ta, pa, qa⟩ := ha.ex
  obtain ⟨tb, pb, qb⟩ := hb.ex
  refine ⟨_, pe_ix ix_tup pa pb hs, fun S own σ H Q rs h => two_run (R' := fun v u H2 => rIxT X.K v u H2 Q) qa qb rs h fun xs i w' u H2 s r1 r3 hp => ?_⟩
  obtain ⟨p, vs, rfl, h1, r2⟩ := r1
  unfold idxM at hp
  cases e : atI xs.l i with
  | none => rw [e] at hp; exact hp.elim
  | some x =>
    rw [e] at hp
    obtain ⟨v, e2, r4⟩ := atI_rel r2 e
    exact ⟨p, vs, i, v, rfl, r3, SqT.same hide_sub h1, e2, hp H2 v s r4⟩
/-- a tuple's place -/
theorem e_pl {A : Type} [Places A] {j : Nat} {f : A → T} {ma : Res A} {c} {p2 : Pos} (ha : EG X W g ρ a ma) (hf : ∀ x, (Places.av x)[j]? = some (av (f x)) := by intro _; rfl) : EG X W g ρ (.Subscript a (.Constant (.int (j : Int)) c p2) pos) (ma.bind fun x => .ok (f x)) := by
  obtain ⟨ta, pa, qa⟩ := ha.ex
  refine ⟨_, pe_ix ix_tup pa pe_int (fun _ _ => rfl), fun S own σ H Q rs h => one_run (R' := fun v H2 => rIxT X.K v (.int (j : Int)) H2 Q) qa rs h fun x w' H2 s r1 hp => ?_⟩
  obtain ⟨p, vs, rfl, h1, r2⟩ := r1
  obtain ⟨v, e2, r4⟩ := r2.get (hf x)
  exact ⟨p, vs, (j : Int), v, rfl, rfl, SqT.same hide_sub h1, atI_nat e2, hp H2 v s r4⟩
theorem e_ixs {ma : Res Str} {mb : Res Int} (ha : EG X W true ρ a ma) (hb : EG X W true ρ b mb) (hs : PlainIx b := by exact fun _ _ => rfl) :
    EG X W g ρ (.Subscript a b pos) (ma.bind fun z => mb.bind fun i => guardR (decide (z.length ≤ sizeLine)) ((idxM z.cps.toList i).bind fun c => .ok (⟨#[c]⟩ : Str))) := by
  obtain ⟨ta, pa, qa⟩ := ha.ex
  obtain ⟨tb, pb, qb⟩ := hb.ex
  refine ⟨_, pe_ix ix_str pa pb hs, fun S own σ H Q rs h => two_run (R' := fun v u H2 => rIxS v u H2 Q) qa qb rs h fun z i w' u H2 s r1 r3 hp => ?_⟩
  obtain ⟨h1, hp⟩ := hp.guard
  unfold idxM at hp
  cases e : atI z.cps.toList i with
  | none => rw [e] at hp; exact hp.elim
  | some c =>
    rw [e] at hp
    exact ⟨z, i, c, r1, r3, of_decide_eq_true h1, e, hp H2 _ s rfl⟩
/-- the script -/
theorem e_ixscr {ma : Res Scr} {mb : Res Int} (ha : EG X W true ρ a ma) (hb : EG X W true ρ b mb) (hs : PlainIx b := by exact fun _ _ => rfl) : EG X W g ρ (.Subscript a b pos) (ma.bind fun z => mb.bind fun i => idxM z.ns i) := by
  obtain ⟨ta, pa, qa⟩ := ha.ex
  obtain ⟨tb, pb, qb⟩ := hb.ex
  refine ⟨_, pe_ix ix_list pa pb hs, fun S own σ H Q rs h => two_run (R' := fun v u H2 => rIxL X.K v u H2 Q) qa qb rs h fun z i w' u H2 s r1 r3 hp => ?_⟩
  obtain ⟨p, rfl, h1⟩ := r1
  unfold idxM at hp
  cases e : atI z.ns i with
  | none => rw [e] at hp; exact hp.elim
  | some x =>
    rw [e] at hp
    obtain ⟨v, e2, r4⟩ := atI_rel (RpAll.of_int (K := X.K) (H := H2) z.ns) e
    exact ⟨p, _, i, v, rfl, r3, hide_sub.seq h1, e2, hp H2 v s r4⟩

/-! ### slices -/
abbrev OGp (X : Cx) (W : WX) (ρ : List Slot) (t : TO) (m : Res (Option Int)) : Prop :=
  ∀ (S own : List Addr) (σ : St) (H : Hp) (Q : Option Int → Hp → Prop), RS X.K S ρ σ H own → Post m (fun x => ∀ H', Same H H' → Q x H') (ErrX X W S own σ H) → t σ H Q
structure OG (X : Cx) (W : WX) (ρ : List Slot) (e : Option Expr) (m : Res (Option Int)) : Prop where
  ex : ∃ t, PO X e t ∧ OGp X W ρ t m
theorem o_none : OG X W ρ none (.ok none) := ⟨_, po_none, fun S own σ H Q rs h => h H (Same.refl H)⟩
theorem o_some {m : Res Int} (h : EG X W true ρ e m) : OG X W ρ (some e) (m.bind fun i => .ok (some i)) := by
  obtain ⟨t, p, q⟩ := h.ex
  exact ⟨_, po_some p, fun S own σ H Q rs hp => q S own σ H _ rs (hp.bind.imp (fun x hx H' v s r => ⟨x, r, hx H' s⟩) fun _ z => z)⟩
def cut {α : Type} (xs : List α) (lo hi : Option Int) : List α := (xs.drop (HT.sIx xs.length 0 lo)).take (HT.sIx xs.length xs.length hi - HT.sIx xs.length 0 lo)
theorem cut_rel {K : PySem.W.Frag} {H : Hp} {vs : List V} {xs : List T} (r : RpAll K H vs xs) (lo hi : Option Int) : RpAll K H (cutV vs lo hi) (cut xs lo hi) := by
  unfold cutV cut
  rw [r.length]
  exact (r.drop _).take _
theorem f_slice {ma : Res (List T)} {ml mh : Res (Option Int)} {lo hi : Option Expr} {p2 : Pos} (ha : LG X W ρ e ma) (hl : OG X W ρ lo ml) (hh : OG X W ρ hi mh) :
    FG X W ρ (.Subscript e (.Slice lo hi none p2) pos) (ma.bind fun xs => ml.bind fun l => mh.bind fun h => .ok (cut xs l h)) := by
  obtain ⟨ta, pa, qa⟩ := ha.ex
  obtain ⟨tl, pl, ql⟩ := hl.ex
  obtain ⟨th, ph, qh⟩ := hh.ex
  refine ⟨_, pe_slice sl_list pa pl ph, fun S own σ H Q rs h => qa S own σ H _ rs (h.bind.imp (fun xs hx H1 a vs s1 r1 r2 => ql S own σ H1 _ (rs.mono s1) (hx.bind.imp (fun l hl2 H2 s2 => qh S own σ H2 _ ((rs.mono s1).mono s2) (hl2.bind.imp (fun u hu H3 s3 => ?_) fun _ z => (z.mono s1).mono s2)) fun _ z => z.mono s1)) fun _ z => z)⟩
  refine ⟨a, vs, rfl, .inl (.inl (s3 _ _ (s2 _ _ r1))), fun p np => ?_⟩
  have s4 := (s1.trans s2).trans s3
  refine hu (upd H3 p (.lst (cutV vs l u))) p _ (s4.trans (same_upd np)) (s4.free np) upd_same ?_
  rw [hide_new np ((rs.mono s4).fresh np)]
  exact cut_rel (RpAll.mono (hide_same (s2.trans s3)) r2) l u
theorem e_slstr {ma : Res Str} {ml mh : Res (Option Int)} {lo hi : Option Expr} {p2 : Pos} (ha : EG X W true ρ e ma) (hl : OG X W ρ lo ml) (hh : OG X W ρ hi mh) :
    EG X W g ρ (.Subscript e (.Slice lo hi none p2) pos) (ma.bind fun xs => ml.bind fun l => mh.bind fun h => guardR (decide (xs.length ≤ sizeLine)) (.ok (cutS xs l h))) := by
  obtain ⟨ta, pa, qa⟩ := ha.ex
  obtain ⟨tl, pl, ql⟩ := hl.ex
  obtain ⟨th, ph, qh⟩ := hh.ex
  refine ⟨_, pe_slice sl_str pa pl ph, fun S own σ H Q rs h => qa S own σ H _ rs (h.bind.imp (fun xs hx H1 v s1 r1 => ql S own σ H1 _ (rs.mono s1) (hx.bind.imp (fun l hl2 H2 s2 => qh S own σ H2 _ ((rs.mono s1).mono s2) (hl2.bind.imp (fun u hu H3 s3 => ?_) fun _ z => (z.mono s1).mono s2)) fun _ z => z.mono s1)) fun _ z => z)⟩
  obtain ⟨h1, hu⟩ := hu.guard
  exact ⟨xs, r1, of_decide_eq_true h1, hu H3 _ ((s1.trans s2).trans s3) rfl⟩

/-! ### built-in calls -/
theorem b_flat {x : Str} {p : Pos} {id : String} {r : List V → Hp → VK → Prop} {f : A → Res C} [Flat C] {ma : Res A} (hc : CallR X (.builtin id) r) (hm : X.mg x = none) (ha : EG X W true ρ a ma)
    (hr : ∀ (B1 : List Addr) (H : Hp) (x : A) (v : V) (Q : VK), rp X.K (hide B1 H) v x → Post (f x) (fun z => ∀ w', rp X.K H w' z → Q w' H) (fun _ => True) → r [v] H Q)
    (hv : bootBuiltins x = some (.builtin id) := by decide +kernel) (hg : Gl X x := by rfl) (hn : x ≠ "__name__" := by decide) (hdb : (x == ("__debug__" : Str)) = false := by decide)
    (he : starEach [a] X.env = (false, eval a X.env) :: starEach [] X.env := by rfl) (hpl : (backTo pos (starEach [] X.env)).any (·.1) = false := by rfl) : EG X W g ρ (.Call (.Name x p) [a] [] pos) (ma.bind f) := by
  obtain ⟨ta, pa, qa⟩ := ha.ex
  refine ⟨_, pe_callB hc hg hm hv (pa_cons pa pa_nil he) hn hdb he hpl, fun S own σ H Q rs h => one_run (R' := fun v H2 => r [v] H2 Q) qa rs h fun x v H2 s r1 hp => hr _ H2 x v Q r1 (hp.imp (fun z hz w' rw' => hz H2 w' s (Flat.any rw')) fun _ _ => trivial)⟩
theorem bt_flat {x : Str} {p : Pos} {id : String} {r : List V → Hp → VK → Prop} {f : A → Res C} [Flat C] {ma : Res A} (hc : CallR X (.type id) r) (hm : X.mg x = none) (ha : EG X W true ρ a ma)
    (hr : ∀ (B1 : List Addr) (H : Hp) (x : A) (v : V) (Q : VK), rp X.K (hide B1 H) v x → Post (f x) (fun z => ∀ w', rp X.K H w' z → Q w' H) (fun _ => True) → r [v] H Q)
    (hv : bootBuiltins x = some (.type id) := by decide +kernel) (hg : Gl X x := by rfl) (hn : x ≠ "__name__" := by decide) (hdb : (x == ("__debug__" : Str)) = false := by decide)
    (he : starEach [a] X.env = (false, eval a X.env) :: starEach [] X.env := by rfl) (hpl : (backTo pos (starEach [] X.env)).any (·.1) = false := by rfl) : EG X W g ρ (.Call (.Name x p) [a] [] pos) (ma.bind f) := by
  obtain ⟨ta, pa, qa⟩ := ha.ex
  refine ⟨_, pe_callTy hc hg hm hv (pa_cons pa pa_nil he) hn hdb he hpl, fun S own σ H Q rs h => one_run (R' := fun v H2 => r [v] H2 Q) qa rs h fun x v H2 s r1 hp => hr _ H2 x v Q r1 (hp.imp (fun z hz w' rw' => hz H2 w' s (Flat.any rw')) fun _ _ => trivial)⟩
/-- len -/
class Len (T : Type) [Rp T] where
  len : T → Res Int
  ok : ∀ {K : PySem.W.Frag} {B : List Addr} {H : Hp} {v : V} {x : T} {Q : Int → Prop}, rp K (hide B H) v x → Post (len x) Q (fun _ => True) → ∃ n : Nat, LenV K v H n ∧ Q n
instance : Len (List T) where
  len xs := .ok (xs.length : Int)
  ok {K B H v x Q} r h := by
    obtain ⟨a, vs, rfl, e1, e2⟩ := r
    exact ⟨x.length, .inl ⟨vs, .inl (.inl (hide_sub _ _ e1)), e2.length.symm⟩, h⟩
instance : Len (Tup T) where
  len xs := .ok (xs.l.length : Int)
  ok {K B H v x Q} r h := by
    obtain ⟨a, vs, rfl, e1, e2⟩ := r
    exact ⟨x.l.length, .inr ⟨vs, SqT.same hide_sub e1, e2.length.symm⟩, h⟩
instance : Len Scr where
  len xs := .ok (xs.ns.length : Int)
  ok {K B H v x Q} r h := by
    obtain ⟨a, rfl, e1⟩ := r
    exact ⟨x.ns.length, .inl ⟨_, hide_sub.seq e1, by rw [List.length_map]⟩, h⟩
instance : Len Str where
  len z := guardR (decide (z.length ≤ sizeLine)) (.ok (z.length : Int))
  ok {K B H v x Q} r h := by
    cases r
    obtain ⟨h1, h2⟩ := h.guard
    exact ⟨x.length, ⟨of_decide_eq_true h1, rfl⟩, h2⟩
instance (priority := low) {A : Type} [Places A] : Len A where
  len x := .ok ((Places.av x).length : Int)
  ok {K B H v x Q} r h := by
    obtain ⟨a, vs, rfl, e1, e2⟩ := r
    exact ⟨_, .inr ⟨vs, SqT.same hide_sub e1, e2.length.symm⟩, h⟩
theorem e_len {p : Pos} [Len A] {ma : Res A} (ha : EG X W true ρ a ma) (hm : X.mg "len" = none) (hg : Gl X "len" := by rfl)
    (he : starEach [a] X.env = (false, eval a X.env) :: starEach [] X.env := by rfl) (hpl : (backTo pos (starEach [] X.env)).any (·.1) = false := by rfl) : EG X W g ρ (.Call (.Name "len" p) [a] [] pos) (ma.bind Len.len) :=
  b_flat call_len hm ha (fun B1 H x v Q r h => by
    obtain ⟨n, h1, h2⟩ := Len.ok (Q := fun z => Q (.int z) H) r (h.imp (fun z hz => hz (.int z) rfl) fun _ z => z)
    exact ⟨v, n, rfl, h1, h2⟩) (by decide +kernel) hg (by decide) (by decide) he hpl
theorem e_int1 {p : Pos} {ma : Res Int} (ha : EG X W true ρ a ma) (hm : X.mg "int" = none) (hg : Gl X "int" := by rfl)
    (he : starEach [a] X.env = (false, eval a X.env) :: starEach [] X.env := by rfl) (hpl : (backTo pos (starEach [] X.env)).any (·.1) = false := by rfl) : EG X W g ρ (.Call (.Name "int" p) [a] [] pos) (ma.bind fun x => .ok x) :=
  bt_flat (f := fun x => .ok x) call_int1 hm ha (fun B1 H x v Q r h => by
    cases r
    exact .inl ⟨x, rfl, h _ rfl⟩) (by decide +kernel) hg (by decide) (by decide) he hpl
theorem e_abs {p : Pos} {ma : Res Int} (ha : EG X W true ρ a ma) (hm : X.mg "abs" = none) (hg : Gl X "abs" := by rfl)
    (he : starEach [a] X.env = (false, eval a X.env) :: starEach [] X.env := by rfl) (hpl : (backTo pos (starEach [] X.env)).any (·.1) = false := by rfl) : EG X W g ρ (.Call (.Name "abs" p) [a] [] pos) (ma.bind fun x => .ok (x.natAbs : Int)) :=
  b_flat (f := fun x => .ok (x.natAbs : Int)) call_abs hm ha (fun B1 H x v Q r h => by
    cases r
    refine ⟨x, rfl, ?_⟩
    have e : (if x < 0 then -x else x) = (x.natAbs : Int) := by split <;> omega
    rw [e]
    exact h _ rfl) (by decide +kernel) hg (by decide) (by decide) he hpl
theorem e_strint {p : Pos} {ma : Res Int} (ha : EG X W true ρ a ma) (hm : X.mg "str" = none) (hg : Gl X "str" := by rfl)
    (he : starEach [a] X.env = (false, eval a X.env) :: starEach [] X.env := by rfl) (hpl : (backTo pos (starEach [] X.env)).any (·.1) = false := by rfl) : EG X W g ρ (.Call (.Name "str" p) [a] [] pos) (ma.bind fun x => guardR (decide (x.natAbs.log2 < 1920)) (.ok (toString x : Str))) :=
  bt_flat (f := fun x => guardR (decide (x.natAbs.log2 < 1920)) (.ok (toString x : Str))) call_str_int hm ha (fun B1 H x v Q r h => by
    cases r
    obtain ⟨h1, h2⟩ := h.guard
    exact ⟨x, rfl, of_decide_eq_true h1, h2 _ rfl⟩) (by decide +kernel) hg (by decide) (by decide) he hpl
/-- a built-in over a list, its value flat -/
theorem b_list {x : Str} {p : Pos} {id : String} {r : List V → Hp → VK → Prop} {f : List A → Res C} [Flat C] {ma : Res (List A)} (hc : CallR X (.builtin id) r) (hm : X.mg x = none) (ha : LG X W ρ a ma)
    (hr : ∀ (B1 : List Addr) (H : Hp) (xs : List A) (p : Addr) (vs : List V) (Q : VK), H p = some (.lst vs) → RpAll X.K (hide B1 H) vs xs → Post (f xs) (fun z => ∀ w', rp X.K H w' z → Q w' H) (fun _ => True) → r [.ref p] H Q)
    (hv : bootBuiltins x = some (.builtin id) := by decide +kernel) (hg : Gl X x := by rfl) (hn : x ≠ "__name__" := by decide) (hdb : (x == ("__debug__" : Str)) = false := by decide)
    (he : starEach [a] X.env = (false, eval a X.env) :: starEach [] X.env := by rfl) (hpl : (backTo pos (starEach [] X.env)).any (·.1) = false := by rfl) : EG X W g ρ (.Call (.Name x p) [a] [] pos) (ma.bind f) := by
  obtain ⟨ta, pa, qa⟩ := ha.ex
  refine ⟨_, pe_callB hc hg hm hv (pa_cons pa pa_nil he) hn hdb he hpl, fun S own σ H Q rs h => lone_run (R' := fun v H2 => r [v] H2 Q) qa rs h fun xs a vs H2 s r1 r2 hp => hr _ H2 xs a vs Q r1 r2 (hp.imp (fun z hz w' rw' => hz H2 w' s (Flat.any rw')) fun _ _ => trivial)⟩
theorem e_sum {p : Pos} {ma : Res (List Int)} (hc : X.calm = true) (ha : LG X W ρ a ma) (hm : X.mg "sum" = none) (hg : Gl X "sum" := by rfl)
    (he : starEach [a] X.env = (false, eval a X.env) :: starEach [] X.env := by rfl) (hpl : (backTo pos (starEach [] X.env)).any (·.1) = false := by rfl) : EG X W g ρ (.Call (.Name "sum" p) [a] [] pos) (ma.bind fun xs => .ok xs.sum) :=
  b_list (f := fun xs => .ok xs.sum) (cr_sum hc) hm ha (fun B1 H xs p vs Q e r h => ⟨p, xs, rfl, .inl (.inl (r.int ▸ e)), h _ rfl⟩) (by decide +kernel) hg (by decide) (by decide) he hpl
theorem e_any {p : Pos} {ma : Res (List Bool)} (hc : X.calm = true) (ha : LG X W ρ a ma) (hm : X.mg "any" = none) (hg : Gl X "any" := by rfl)
    (he : starEach [a] X.env = (false, eval a X.env) :: starEach [] X.env := by rfl) (hpl : (backTo pos (starEach [] X.env)).any (·.1) = false := by rfl) : EG X W g ρ (.Call (.Name "any" p) [a] [] pos) (ma.bind fun xs => .ok (xs.any id)) :=
  b_list (f := fun xs => .ok (xs.any id)) (cr_any hc) hm ha (fun B1 H xs p vs Q e r h => ⟨p, xs, rfl, .inl (.inl (r.bl ▸ e)), h _ rfl⟩) (by decide +kernel) hg (by decide) (by decide) he hpl
theorem e_all {p : Pos} {ma : Res (List Bool)} (hc : X.calm = true) (ha : LG X W ρ a ma) (hm : X.mg "all" = none) (hg : Gl X "all" := by rfl)
    (he : starEach [a] X.env = (false, eval a X.env) :: starEach [] X.env := by rfl) (hpl : (backTo pos (starEach [] X.env)).any (·.1) = false := by rfl) : EG X W g ρ (.Call (.Name "all" p) [a] [] pos) (ma.bind fun xs => .ok (xs.all id)) :=
  b_list (f := fun xs => .ok (xs.all id)) (cr_all hc) hm ha (fun B1 H xs p vs Q e r h => ⟨p, xs, rfl, .inl (.inl (r.bl ▸ e)), h _ rfl⟩) (by decide +kernel) hg (by decide) (by decide) he hpl
theorem e_max2 {p : Pos} {ma mb : Res Int} (hc : X.calm = true) (ha : EG X W true ρ a ma) (hb : EG X W true ρ b mb) (hm : X.mg "max" = none) (hg : Gl X "max" := by rfl)
    (he : starEach [a, b] X.env = (false, eval a X.env) :: starEach [b] X.env := by rfl) (he2 : starEach [b] X.env = (false, eval b X.env) :: starEach [] X.env := by rfl) (hpl : (backTo pos (starEach [b] X.env)).any (·.1) = false := by rfl) :
    EG X W g ρ (.Call (.Name "max" p) [a, b] [] pos) (ma.bind fun x => mb.bind fun y => .ok (if y > x then y else x)) := by
  obtain ⟨ta, pa, qa⟩ := ha.ex
  obtain ⟨tb, pb, qb⟩ := hb.ex
  refine ⟨_, pe_callB (call_max2 hc) hg hm (by decide +kernel) (pa_cons pa (pa_cons pb pa_nil he2) he) (by decide) (by decide) he hpl, fun S own σ H Q rs h => two_run (R' := fun v u H2 => ∃ i j, [v, u] = [V.int i, V.int j] ∧ Q (.int (if j > i then j else i)) H2) qa qb rs h fun x y v u H2 s r1 r2 hp => ?_⟩
  cases r1
  cases r2
  exact ⟨x, y, rfl, hp H2 _ s rfl⟩
theorem e_min2 {p : Pos} {ma mb : Res Int} (hc : X.calm = true) (ha : EG X W true ρ a ma) (hb : EG X W true ρ b mb) (hm : X.mg "min" = none) (hg : Gl X "min" := by rfl)
    (he : starEach [a, b] X.env = (false, eval a X.env) :: starEach [b] X.env := by rfl) (he2 : starEach [b] X.env = (false, eval b X.env) :: starEach [] X.env := by rfl) (hpl : (backTo pos (starEach [b] X.env)).any (·.1) = false := by rfl) :
    EG X W g ρ (.Call (.Name "min" p) [a, b] [] pos) (ma.bind fun x => mb.bind fun y => .ok (if y < x then y else x)) := by
  obtain ⟨ta, pa, qa⟩ := ha.ex
  obtain ⟨tb, pb, qb⟩ := hb.ex
  refine ⟨_, pe_callB (call_min2 hc) hg hm (by decide +kernel) (pa_cons pa (pa_cons pb pa_nil he2) he) (by decide) (by decide) he hpl, fun S own σ H Q rs h => two_run (R' := fun v u H2 => ∃ i j, [v, u] = [V.int i, V.int j] ∧ Q (.int (if j < i then j else i)) H2) qa qb rs h fun x y v u H2 s r1 r2 hp => ?_⟩
  cases r1
  cases r2
  exact ⟨x, y, rfl, hp H2 _ s rfl⟩
theorem e_gcd {x : Str} {p : Pos} {ma mb : Res Int} (ha : EG X W true ρ a ma) (hb : EG X W true ρ b mb) (hm : X.mg x = some (.builtin "math.gcd")) (hg : Gl X x := by rfl) (hdb : (x == ("__debug__" : Str)) = false := by decide)
    (he : starEach [a, b] X.env = (false, eval a X.env) :: starEach [b] X.env := by rfl) (he2 : starEach [b] X.env = (false, eval b X.env) :: starEach [] X.env := by rfl) (hpl : (backTo pos (starEach [b] X.env)).any (·.1) = false := by rfl) :
    EG X W g ρ (.Call (.Name x p) [a, b] [] pos) (ma.bind fun x => mb.bind fun y => .ok ((Nat.gcd x.natAbs y.natAbs : Nat) : Int)) := by
  obtain ⟨ta, pa, qa⟩ := ha.ex
  obtain ⟨tb, pb, qb⟩ := hb.ex
  refine ⟨_, pe_callBfun cr_gcd hg hm (pa_cons pa (pa_cons pb pa_nil he2) he) hdb he hpl, fun S own σ H Q rs h => two_run (R' := fun v u H2 => rGcd [v, u] H2 Q) qa qb rs h fun x y v u H2 s r1 r2 hp => ?_⟩
  cases r1
  cases r2
  exact ⟨x, y, rfl, hp H2 _ s rfl⟩

/-! ### new lists, tuples by calls -/
theorem f_listof {p : Pos} {ma : Res (List T)} (ha : LG X W ρ a ma) (hm : X.mg "list" = none) (hg : Gl X "list" := by rfl)
    (he : starEach [a] X.env = (false, eval a X.env) :: starEach [] X.env := by rfl) (hpl : (backTo pos (starEach [] X.env)).any (·.1) = false := by rfl) : FG X W ρ (.Call (.Name "list" p) [a] [] pos) (ma.bind fun xs => .ok xs) := by
  obtain ⟨ta, pa, qa⟩ := ha.ex
  refine ⟨_, pe_callTy call_list_of hg hm (by decide +kernel) (pa_cons pa pa_nil he) (by decide) (by decide) he hpl, fun S own σ H Q rs h => lone_run (R' := fun v H2 => ∃ p ys, [v] = [V.ref p] ∧ (SqL X.K H2 p ys ∨ SqT X.K H2 p ys) ∧ ∀ l, H2 l = none → Q (.ref l) (upd H2 l (.lst ys))) qa rs h fun xs a vs H2 s r1 r2 hp => ?_⟩
  refine ⟨a, vs, rfl, .inl (.inl (.inl r1)), fun l nl => hp (upd H2 l (.lst vs)) l vs (s.trans (same_upd nl)) (s.free nl) upd_same ?_⟩
  rw [hide_new nl ((rs.mono s).fresh nl)]
  exact r2
theorem f_listoft {p : Pos} {ma : Res (Tup T)} (ha : EG X W true ρ a ma) (hm : X.mg "list" = none) (hg : Gl X "list" := by rfl)
    (he : starEach [a] X.env = (false, eval a X.env) :: starEach [] X.env := by rfl) (hpl : (backTo pos (starEach [] X.env)).any (·.1) = false := by rfl) : FG X W ρ (.Call (.Name "list" p) [a] [] pos) (ma.bind fun xs => .ok xs.l) := by
  obtain ⟨ta, pa, qa⟩ := ha.ex
  refine ⟨_, pe_callTy call_list_of hg hm (by decide +kernel) (pa_cons pa pa_nil he) (by decide) (by decide) he hpl, fun S own σ H Q rs h => one_run (R' := fun v H2 => ∃ p ys, [v] = [V.ref p] ∧ (SqL X.K H2 p ys ∨ SqT X.K H2 p ys) ∧ ∀ l, H2 l = none → Q (.ref l) (upd H2 l (.lst ys))) qa rs h fun xs v H2 s r1 hp => ?_⟩
  obtain ⟨a, vs, rfl, h1, r2⟩ := r1
  refine ⟨a, vs, rfl, .inr (SqT.same hide_sub h1), fun l nl => hp (upd H2 l (.lst vs)) l vs (s.trans (same_upd nl)) (s.free nl) upd_same ?_⟩
  rw [hide_new nl ((rs.mono s).fresh nl)]
  exact r2
theorem e_tupof {p : Pos} {ma : Res (List T)} (ha : LG X W ρ a ma) (hm : X.mg "tuple" = none) (hg : Gl X "tuple" := by rfl)
    (he : starEach [a] X.env = (false, eval a X.env) :: starEach [] X.env := by rfl) (hpl : (backTo pos (starEach [] X.env)).any (·.1) = false := by rfl) : EG X W g ρ (.Call (.Name "tuple" p) [a] [] pos) (ma.bind fun xs => .ok (⟨xs⟩ : Tup T)) := by
  obtain ⟨ta, pa, qa⟩ := ha.ex
  refine ⟨_, pe_callTy call_tuple_of hg hm (by decide +kernel) (pa_cons pa pa_nil he) (by decide) (by decide) he hpl, fun S own σ H Q rs h => lone_run (R' := fun v H2 => ∃ p ys, [v] = [V.ref p] ∧ ((SqL X.K H2 p ys ∧ ∀ l, H2 l = none → Q (.ref l) (upd H2 l (.tup ys))) ∨ (SqT X.K H2 p ys ∧ Q (.ref p) H2))) qa rs h fun xs a vs H2 s r1 r2 hp => ?_⟩
  refine ⟨a, vs, rfl, .inl ⟨.inl (.inl r1), fun l nl => hp _ (.ref l) (s.trans (same_upd nl)) ⟨l, vs, rfl, .inl (.inl ?_), ?_⟩⟩⟩
  · rw [hide_out fun z => (rs.mono s).dom l (reg_sub l z) nl, upd_same]
  · exact RpAll.mono (hide_same (same_upd nl)) (RpAll.mono (hide_mono reg_sub) r2)
theorem f_cat {ma mb : Res (List T)} (ha : LG X W ρ a ma) (hb : LG X W ρ b mb) : FG X W ρ (.BinOp a .Add b pos) (ma.bind fun xs => mb.bind fun ys => guardR (decide (xs.length + ys.length ≤ sizeLine)) (.ok (xs ++ ys))) := by
  obtain ⟨ta, pa, qa⟩ := ha.ex
  obtain ⟨tb, pb, qb⟩ := hb.ex
  refine ⟨_, pe_op op_cat pa pb, fun S own σ H Q rs h => qa S own σ H _ rs (h.bind.imp (fun xs hx H1 l vs s1 r1 r2 => qb S own σ H1 _ (rs.mono s1) (hx.bind.imp (fun ys hy H2 k us s2 r3 r4 => ?_) fun _ z => z.mono s1)) fun _ z => z)⟩
  obtain ⟨h1, hy⟩ := hy.guard
  have s := s1.trans s2
  refine ⟨l, k, vs, us, rfl, rfl, s2 _ _ r1, r3, by rw [r2.length, r4.length]; exact of_decide_eq_true h1, fun p np => hy (upd H2 p (.lst (vs ++ us))) p _ (s.trans (same_upd np)) (s.free np) upd_same ?_⟩
  rw [hide_new np ((rs.mono s).fresh np)]
  exact (RpAll.mono (hide_same s2) r2).append r4
theorem RpAll.rep {K : PySem.W.Frag} {H : Hp} {vs : List V} {xs : List T} (r : RpAll K H vs xs) : ∀ k : Nat, RpAll K H (List.replicate k vs).flatten (List.replicate k xs).flatten
  | 0 => .nil
  | k + 1 => by
    rw [List.replicate_succ, List.replicate_succ, List.flatten_cons, List.flatten_cons]
    exact r.append (RpAll.rep r k)
def repM {α : Type} (xs : List α) (k : Int) : Res (List α) := guardR (decide (-(2 ^ 63) ≤ k) && (decide (k < 2 ^ 63) && decide (xs.length * k.toNat ≤ sizeLine))) (.ok (List.replicate k.toNat xs).flatten)
theorem f_rep {ma : Res (List T)} {mb : Res Int} (ha : LG X W ρ a ma) (hb : EG X W true ρ b mb) : FG X W ρ (.BinOp a .Mult b pos) (ma.bind fun xs => mb.bind fun k => repM xs k) := by
  obtain ⟨ta, pa, qa⟩ := ha.ex
  obtain ⟨tb, pb, qb⟩ := hb.ex
  refine ⟨_, pe_op op_rep pa pb, fun S own σ H Q rs h => ltwo_run (R' := fun v u H2 => rRep v u H2 Q) qa qb rs h fun xs k l vs u H2 s r1 r2 r3 hp => ?_⟩
  obtain ⟨h1, hp⟩ := hp.guard
  simp only [Bool.and_eq_true, decide_eq_true_eq] at h1
  refine ⟨l, k, vs, rfl, r3, r1, h1.1, h1.2.1, by rw [r2.length]; exact h1.2.2, fun p np => hp (upd H2 p (.lst (List.replicate k.toNat vs).flatten)) p _ (s.trans (same_upd np)) (s.free np) upd_same ?_⟩
  rw [hide_new np ((rs.mono s).fresh np)]
  exact RpAll.rep r2 _
end
end Py

set_option Elab.async false
set_option linter.all false
set_option maxRecDepth 100000
set_option maxHeartbeats 1000000
/-! Py, part D: statements, loops, comprehensions, defs. -/
namespace Py
open PySem PySem.Spec L2
open Rp (rp)

/-! ### slots set, forgotten, let go -/
inductive Wk : List Slot → List Slot → Prop where
  | nil : Wk [] []
  | s {x : Slot} {ρ ρ' : List Slot} : Wk ρ ρ' → Wk (x :: ρ) (x :: ρ')
  | n {x : Slot} {ρ ρ' : List Slot} : Wk ρ ρ' → Wk (x :: ρ) (.non :: ρ')
theorem Wk.refl : ∀ ρ : List Slot, Wk ρ ρ
  | [] => .nil
  | _ :: r => .s (Wk.refl r)
theorem Rs.wk {K : PySem.W.Frag} {Hs H : Hp} {ρ ρ' : List Slot} (w : Wk ρ ρ') : ∀ {σ : St} {ads : List Addr}, Rs K Hs H ρ σ ads → ∃ ads', Rs K Hs H ρ' σ ads' ∧ ads'.Sublist ads := by
  induction w with
  | nil => intro σ ads r; exact ⟨ads, r, List.Sublist.refl _⟩
  | @s x ρ ρ' _ ih =>
    intro σ ads r
    cases r with
    | non r => obtain ⟨a, h1, h2⟩ := ih r; exact ⟨a, .non h1, h2⟩
    | val h r => obtain ⟨a, h1, h2⟩ := ih r; exact ⟨a, .val h h1, h2⟩
    | own h0 h1 h2 r => obtain ⟨a, q1, q2⟩ := ih r; exact ⟨_, .own h0 h1 h2 q1, q2.cons₂ _⟩
  | @n x ρ ρ' _ ih =>
    intro σ ads r
    cases r with
    | non r => obtain ⟨a, h1, h2⟩ := ih r; exact ⟨a, .non h1, h2⟩
    | val h r => obtain ⟨a, h1, h2⟩ := ih r; exact ⟨a, .non h1, h2⟩
    | own h0 h1 h2 r => obtain ⟨a, q1, q2⟩ := ih r; exact ⟨a, .non q1, q2.cons _⟩
theorem RS.wk {K : PySem.W.Frag} {S own : List Addr} {ρ ρ' : List Slot} {σ : St} {H : Hp} (w : Wk ρ ρ') (r : RS K S ρ σ H own) : RS K S ρ' σ H own := by
  obtain ⟨⟨ads, h1, h2, h3⟩, h4, h5⟩ := r
  obtain ⟨ads', q1, q2⟩ := h1.wk w
  exact ⟨⟨ads', q1, h2.sublist q2, fun a ha => h3 a (q2.subset ha)⟩, h4, h5⟩
theorem Rs.set {K : PySem.W.Frag} {Hs H : Hp} {T : Type} [Rp T] {v : V} {x : T} (h : rp K Hs v x) {ρ : List Slot} {σ : St} {ads : List Addr} (r : Rs K Hs H ρ σ ads) : ∀ i : Nat, ∃ ads', Rs K Hs H (ρ.set i (.val T x)) (σ.set i (some v)) ads' ∧ ads'.Sublist ads := by
  induction r with
  | nil => intro i; exact ⟨[], .nil, List.Sublist.refl _⟩
  | non r ih =>
    intro i
    cases i with
    | zero => exact ⟨_, .val h r, List.Sublist.refl _⟩
    | succ i => obtain ⟨a, q1, q2⟩ := ih i; exact ⟨a, .non q1, q2⟩
  | val h1 r ih =>
    intro i
    cases i with
    | zero => exact ⟨_, .val h r, List.Sublist.refl _⟩
    | succ i => obtain ⟨a, q1, q2⟩ := ih i; exact ⟨a, .val h1 q1, q2⟩
  | own h0 h1 h2 r ih =>
    intro i
    cases i with
    | zero => exact ⟨_, .val h r, List.sublist_cons_self _ _⟩
    | succ i => obtain ⟨a, q1, q2⟩ := ih i; exact ⟨_, .own h0 h1 h2 q1, q2.cons₂ _⟩
theorem RS.set {K : PySem.W.Frag} {S own : List Addr} {ρ : List Slot} {σ : St} {H : Hp} {T : Type} [Rp T] {v : V} {x : T} (r : RS K S ρ σ H own) (h : rp K (hide (S ++ own) H) v x) (i : Nat) : RS K S (ρ.set i (.val T x)) (σ.set i (some v)) H own := by
  obtain ⟨⟨ads, h1, h2, h3⟩, h4, h5⟩ := r
  obtain ⟨ads', q1, q2⟩ := Rs.set h h1 i
  exact ⟨⟨ads', q1, h2.sublist q2, fun a ha => h3 a (q2.subset ha)⟩, h4, h5⟩
theorem Rs.setOwn {K : PySem.W.Frag} {Hs H : Hp} {T : Type} [Rp T] {a : Addr} {vs : List V} {xs : List T} (e : H a = some (.lst vs)) (h : RpAll K Hs vs xs) {ρ : List Slot} {σ : St} {ads : List Addr} (r : Rs K Hs H ρ σ ads) : ∀ i : Nat, i < ρ.length → a ∉ ads → ads.Nodup →
    ∃ ads', Rs K Hs H (ρ.set i (.own T none xs)) (σ.set i (some (.ref a))) ads' ∧ ads'.Nodup ∧ ∀ b ∈ ads', b = a ∨ b ∈ ads := by
  have hno : ∀ b, (none : Option Addr) = some b → b = a := fun _ z => nomatch z
  induction r with
  | nil => intro i hi; exact absurd hi (Nat.not_lt_zero _)
  | non r ih =>
    intro i hi hn nd
    cases i with
    | zero => exact ⟨_, .own hno e h r, List.nodup_cons.mpr ⟨hn, nd⟩, fun b hb => (List.mem_cons.mp hb).imp id id⟩
    | succ i => obtain ⟨as, q1, q2, q3⟩ := ih i (Nat.lt_of_succ_lt_succ hi) hn nd; exact ⟨as, .non q1, q2, q3⟩
  | val h1 r ih =>
    intro i hi hn nd
    cases i with
    | zero => exact ⟨_, .own hno e h r, List.nodup_cons.mpr ⟨hn, nd⟩, fun b hb => (List.mem_cons.mp hb).imp id id⟩
    | succ i => obtain ⟨as, q1, q2, q3⟩ := ih i (Nat.lt_of_succ_lt_succ hi) hn nd; exact ⟨as, .val h1 q1, q2, q3⟩
  | own h0 h1 h2 r ih =>
    intro i hi hn nd
    cases i with
    | zero => exact ⟨_, .own hno e h r, List.nodup_cons.mpr ⟨fun z => hn (List.mem_cons_of_mem _ z), (List.nodup_cons.mp nd).2⟩, fun b hb => (List.mem_cons.mp hb).imp id fun z => List.mem_cons_of_mem _ z⟩
    | succ i =>
      obtain ⟨as, q1, q2, q3⟩ := ih i (Nat.lt_of_succ_lt_succ hi) (fun z => hn (List.mem_cons_of_mem _ z)) (List.nodup_cons.mp nd).2
      refine ⟨_, .own h0 h1 h2 q1, List.nodup_cons.mpr ⟨fun z => ?_, q2⟩, fun b hb => ?_⟩
      · rcases q3 _ z with z | z
        · exact hn (z ▸ List.mem_cons_self)
        · exact (List.nodup_cons.mp nd).1 z
      · rcases List.mem_cons.mp hb with z | z
        · exact .inr (z ▸ List.mem_cons_self)
        · exact (q3 b z).imp id fun z => List.mem_cons_of_mem _ z
theorem same_hide_new {S own : List Addr} {H H' : Hp} {a : Addr} (s : Same H H') (na : H a = none) : Same (hide (S ++ own) H) (hide (S ++ a :: own) H') := fun b o e => by
  obtain ⟨h1, h2⟩ := hide_some e
  have hb : b ≠ a := fun z => by rw [z, na] at h2; cases h2
  rw [hide_out, s b o h2]
  intro z
  rcases List.mem_append.mp z with z | z
  · exact h1 (List.mem_append_left _ z)
  · rcases List.mem_cons.mp z with z | z
    · exact hb z
    · exact h1 (List.mem_append_right _ z)
/-- a new list is kept in slot i -/
theorem RS.setOwn {K : PySem.W.Frag} {S own : List Addr} {ρ : List Slot} {σ : St} {H H' : Hp} {T : Type} [Rp T] {a : Addr} {vs : List V} {xs : List T} (r : RS K S ρ σ H own) (s : Same H H') (na : H a = none) (e : H' a = some (.lst vs)) (h : RpAll K (hide (a :: (S ++ own)) H') vs xs)
    (i : Nat) (hi : i < ρ.length) : RS K S (ρ.set i (.own T none xs)) (σ.set i (some (.ref a))) H' (a :: own) := by
  obtain ⟨⟨ads, h1, h2, h3⟩, h4, h5⟩ := r
  have nS : a ∉ S ++ own := fun z => h5 a z na
  have h1' := h1.mono (same_hide_new s na) fun b _ o q => s b o q
  have hh : RpAll K (hide (S ++ a :: own) H') vs xs := by
    refine RpAll.mono (hide_mono fun b hb => ?_) h
    rcases List.mem_append.mp hb with z | z
    · exact List.mem_cons_of_mem _ (List.mem_append_left _ z)
    · rcases List.mem_cons.mp z with z | z
      · exact z ▸ List.mem_cons_self
      · exact List.mem_cons_of_mem _ (List.mem_append_right _ z)
  obtain ⟨ads', q1, q2, q3⟩ := Rs.setOwn e hh h1' i hi (fun z => nS (List.mem_append_right _ (h3 a z))) h2
  refine ⟨⟨ads', q1, q2, fun b hb => ?_⟩, fun b hb => ?_, fun b hb => ?_⟩
  · rcases q3 b hb with z | z
    · exact List.mem_cons.mpr (.inl z)
    · exact List.mem_cons_of_mem _ (h3 b z)
  · rcases List.mem_cons.mp hb with z | z
    · exact z ▸ fun q => nS (List.mem_append_left _ q)
    · exact h4 b z
  · rcases List.mem_append.mp hb with z | z
    · exact dom_same s (h5 b (List.mem_append_left _ z))
    · rcases List.mem_cons.mp z with z | z
      · rw [z, e]; intro q; cases q
      · exact dom_same s (h5 b (List.mem_append_right _ z))
/-- the kept list of slot i is written -/
theorem Rs.write {K : PySem.W.Frag} {Hs H : Hp} {T : Type} [Rp T] {vs' : List V} {ys : List T} (h : RpAll K Hs vs' ys) {ρ : List Slot} {σ : St} {ads : List Addr} (r : Rs K Hs H ρ σ ads) : ∀ {i : Nat} {ao : Option Addr} {xs : List T} {a : Addr}, ρ[i]? = some (.own T ao xs) → σ[i]? = some (some (.ref a)) →
    ads.Nodup → Rs K Hs (upd H a (.lst vs')) (ρ.set i (.own T ao ys)) σ ads := by
  induction r with
  | nil => intro i ao xs a e1; cases e1
  | non r ih =>
    intro i ao xs a e1 e2 nd
    cases i with
    | zero => cases e1
    | succ i => exact .non (ih (i := i) e1 e2 nd)
  | val q r ih =>
    intro i ao xs a e1 e2 nd
    cases i with
    | zero => cases e1
    | succ i => exact .val q (ih (i := i) e1 e2 nd)
  | @own ρ σ as T' inst ao' xs' b ws h0 h1 h2 r ih =>
    intro i ao xs a e1 e2 nd
    cases i with
    | zero =>
      cases e1
      cases e2
      refine .own h0 upd_same h (r.mono (Same.refl _) fun b hb o q => ?_)
      rw [upd_ne (fun z => (List.nodup_cons.mp nd).1 (by rw [← z]; exact hb))]
      exact q
    | succ i =>
      have hb : b ≠ a := by
        obtain ⟨a2, _, z1, z2, _⟩ := r.own_at (show ρ[i]? = _ from e1)
        have : a2 = a := by
          have z3 : σ[i]? = some (some (.ref a)) := e2
          rw [z1] at z3
          cases z3
          rfl
        subst this
        exact fun z => (List.nodup_cons.mp nd).1 (z ▸ z2)
      exact .own h0 (by rw [upd_ne hb]; exact h1) h2 (ih (i := i) e1 e2 (List.nodup_cons.mp nd).2)
theorem RS.write {K : PySem.W.Frag} {S own : List Addr} {ρ : List Slot} {σ : St} {H : Hp} {T : Type} [Rp T] {a : Addr} {vs' : List V} {xs ys : List T} {ao : Option Addr} {i : Nat} (r : RS K S ρ σ H own) (e1 : ρ[i]? = some (.own T ao xs)) (e2 : σ[i]? = some (some (.ref a)))
    (h : RpAll K (hide (S ++ own) H) vs' ys) : RS K S (ρ.set i (.own T ao ys)) σ (upd H a (.lst vs')) own ∧ Ext own H own (upd H a (.lst vs')) := by
  obtain ⟨⟨ads, h1, h2, h3⟩, h4, h5⟩ := r
  obtain ⟨a2, _, z1, z2, _⟩ := h1.own_at e1
  have : a2 = a := by
    rw [z1] at e2
    cases e2
    rfl
  subst this
  have hin : a2 ∈ S ++ own := List.mem_append_right _ (h3 _ z2)
  have hd : ∀ b, H b ≠ none → upd H a2 (.lst vs') b ≠ none := fun b hb => by
    by_cases z : b = a2
    · subst z; rw [upd_same]; intro q; cases q
    · rw [upd_ne z]; exact hb
  refine ⟨⟨⟨ads, ?_, h2, h3⟩, h4, fun b hb => hd b (h5 b hb)⟩, fun b o e hb => ?_, hd, fun b hb => .inl hb⟩
  · rw [hide_upd_in hin]
    exact Rs.write h h1 e1 e2 h2
  · rw [upd_ne (fun z => hb (by rw [z]; exact h3 _ z2))]
    exact e
/-- a kept list is let go: from now on it is only read -/
theorem Rs.freeze {K : PySem.W.Frag} {Hs H : Hp} {T : Type} [Rp T] {ρ : List Slot} {σ : St} {ads : List Addr} (r : Rs K Hs H ρ σ ads) : ∀ {i : Nat} {ao : Option Addr} {xs : List T}, ρ[i]? = some (.own T ao xs) → ads.Nodup →
    ∃ a vs ads', a ∈ ads ∧ H a = some (.lst vs) ∧ RpAll K Hs vs xs ∧ ads'.Nodup ∧ (∀ b ∈ ads', b ∈ ads ∧ b ≠ a) ∧ ∀ Hs', Same Hs Hs' → Hs' a = some (.lst vs) → Rs K Hs' H (ρ.set i (.val (List T) xs)) σ ads' := by
  induction r with
  | nil => intro i ao xs e1; cases e1
  | non r ih =>
    intro i ao xs e1 nd
    cases i with
    | zero => cases e1
    | succ i =>
      obtain ⟨a, vs, ads', q1, q2, q3, q4, q5, q6⟩ := ih (i := i) e1 nd
      exact ⟨a, vs, ads', q1, q2, q3, q4, q5, fun Hs' s e => .non (q6 Hs' s e)⟩
  | val h r ih =>
    intro i ao xs e1 nd
    cases i with
    | zero => cases e1
    | succ i =>
      obtain ⟨a, vs, ads', q1, q2, q3, q4, q5, q6⟩ := ih (i := i) e1 nd
      exact ⟨a, vs, ads', q1, q2, q3, q4, q5, fun Hs' s e => .val (Rp.mono s h) (q6 Hs' s e)⟩
  | @own ρ σ as T' inst ao' xs' b ws h0 h1 h2 r ih =>
    intro i ao xs e1 nd
    cases i with
    | zero =>
      cases e1
      exact ⟨_, _, _, List.mem_cons_self, h1, h2, (List.nodup_cons.mp nd).2, fun b hb => ⟨List.mem_cons_of_mem _ hb, fun z => (List.nodup_cons.mp nd).1 (z ▸ hb)⟩, fun Hs' s e => .val ⟨_, _, rfl, e, RpAll.mono s h2⟩ (r.mono s fun _ _ _ q => q)⟩
    | succ i =>
      obtain ⟨a, vs, ads', q1, q2, q3, q4, q5, q6⟩ := ih (i := i) e1 (List.nodup_cons.mp nd).2
      refine ⟨a, vs, b :: ads', List.mem_cons_of_mem _ q1, q2, q3, List.nodup_cons.mpr ⟨fun z => (List.nodup_cons.mp nd).1 (q5 _ z).1, q4⟩, fun c hc => ?_, fun Hs' s e => .own h0 h1 (RpAll.mono s h2) (q6 Hs' s e)⟩
      rcases List.mem_cons.mp hc with z | z
      · exact ⟨z ▸ List.mem_cons_self, z ▸ fun y => (List.nodup_cons.mp nd).1 (y ▸ q1)⟩
      · exact ⟨List.mem_cons_of_mem _ (q5 c z).1, (q5 c z).2⟩
theorem RS.freeze {K : PySem.W.Frag} {S own : List Addr} {ρ : List Slot} {σ : St} {H : Hp} {T : Type} [Rp T] {xs : List T} {ao : Option Addr} {i : Nat} (r : RS K S ρ σ H own) (e1 : ρ[i]? = some (.own T ao xs)) :
    ∃ own', RS K S (ρ.set i (.val (List T) xs)) σ H own' ∧ Ext own H own' H := by
  obtain ⟨⟨ads, h1, h2, h3⟩, h4, h5⟩ := r
  obtain ⟨a, vs, ads', q1, q2, q3, q4, q5, q6⟩ := Rs.freeze h1 e1 h2
  have hsub : ∀ b, b ∈ S ++ own.filter (fun b => decide (b ≠ a)) → b ∈ S ++ own := fun b hb => by
    rcases List.mem_append.mp hb with z | z
    · exact List.mem_append_left _ z
    · exact List.mem_append_right _ (List.mem_filter.mp z).1
  refine ⟨own.filter (fun b => decide (b ≠ a)), ⟨⟨ads', q6 _ (hide_mono hsub) ?_, q4, fun b hb => ?_⟩, fun b hb => h4 b (List.mem_filter.mp hb).1, fun b hb => h5 b (hsub b hb)⟩, fun b o e _ => e, fun b h => h, fun b hb => .inl (List.mem_filter.mp hb).1⟩
  · rw [hide_out]
    · exact q2
    · intro z
      rcases List.mem_append.mp z with z | z
      · exact h4 a (h3 a q1) z
      · exact of_decide_eq_true (List.mem_filter.mp z).2 rfl
  · exact List.mem_filter.mpr ⟨h3 b (q5 b hb).1, decide_eq_true (q5 b hb).2⟩

/-! ### ways out of statements -/
inductive Ctl (S B R : Type) where
  | nx (s : S)
  | rt (r : R)
  | bk (b : B)
  | ct (b : B)
/-- what stands at a return: the slots (kept arguments), the value -/
structure Rt (R : Type) where
  sl : R → List Slot
  vl : PySem.W.Frag → List Addr → List Addr → Hp → V → R → Prop
def WkO (ρ : List Slot) : Option (List Slot) → Prop
  | none => True
  | some r => Wk ρ r
section
variable {S₁ B R : Type}
def ErrS (K : PySem.W.Frag) (W : WX) (S own : List Addr) (H : Hp) (ρe : Option (List Slot)) (e : Ex) : Prop :=
  ∀ σ' H' own' c d, Ext own H own' H' → (∀ r, ρe = some r → RS K S r σ' H' own') → ExR K (hide (S ++ own') H') c d e → W c d σ' H'
def NxP (K : PySem.W.Frag) (S own : List Addr) (H : Hp) (k : St → Hp → Prop) (n : S₁ → List Slot) (s : S₁) : Prop := ∀ σ' H' own', Ext own H own' H' → RS K S (n s) σ' H' own' → k σ' H'
def RtP (K : PySem.W.Frag) (S own : List Addr) (H : Hp) (k : VK) (Z : Rt R) (r : R) : Prop := ∀ v σ' H' own', Ext own H own' H' → RS K S (Z.sl r) σ' H' own' → Z.vl K S own' H' v r → k v H'
def CtlP (K : PySem.W.Frag) (S own : List Addr) (H : Hp) (D : Ends) (n : S₁ → List Slot) (b : B → List Slot) (Z : Rt R) : Ctl S₁ B R → Prop
  | .nx s => NxP K S own H D.nx n s
  | .rt r => RtP K S own H D.rt Z r
  | .bk x => NxP K S own H D.bk b x
  | .ct x => NxP K S own H D.ct b x
abbrev SNp (X : Cx) (W : WX) (ρe : Option (List Slot)) (ρ : List Slot) (t : TS) (n : S₁ → List Slot) (m : Res S₁) : Prop :=
  ∀ (S own : List Addr) (σ : St) (H : Hp) (D : Ends), RS X.K S ρ σ H own → Post m (NxP X.K S own H D.nx n) (ErrS X.K W S own H ρe) → t D σ H
abbrev SRp (X : Cx) (W : WX) (ρe : Option (List Slot)) (ρ : List Slot) (t : TS) (Z : Rt R) (m : Res R) : Prop :=
  ∀ (S own : List Addr) (σ : St) (H : Hp) (D : Ends), RS X.K S ρ σ H own → Post m (RtP X.K S own H D.rt Z) (ErrS X.K W S own H ρe) → t D σ H
abbrev SCp (X : Cx) (W : WX) (ρe : Option (List Slot)) (ρ : List Slot) (t : TS) (n : S₁ → List Slot) (b : B → List Slot) (Z : Rt R) (m : Res (Ctl S₁ B R)) : Prop :=
  ∀ (S own : List Addr) (σ : St) (H : Hp) (D : Ends), RS X.K S ρ σ H own → Post m (CtlP X.K S own H D n b Z) (ErrS X.K W S own H ρe) → t D σ H
/-- one statement that falls through -/
structure N1 (X : Cx) (W : WX) (ρe : Option (List Slot)) (ρ : List Slot) (st : Stmt) (n : S₁ → List Slot) (m : Res S₁) : Prop where
  ex : ∃ t, PS X st t ∧ SNp X W ρe ρ t n m
structure C1 (X : Cx) (W : WX) (ρe : Option (List Slot)) (ρ : List Slot) (st : Stmt) (n : S₁ → List Slot) (b : B → List Slot) (Z : Rt R) (m : Res (Ctl S₁ B R)) : Prop where
  ex : ∃ t, PS X st t ∧ SCp X W ρe ρ t n b Z m
/-- blocks: that fall through, that return, of any way out -/
structure SN (X : Cx) (W : WX) (ρe : Option (List Slot)) (ρ : List Slot) (sts : List Stmt) (n : S₁ → List Slot) (m : Res S₁) : Prop where
  ex : ∃ t, PSs X sts t ∧ SNp X W ρe ρ t n m
structure SR (X : Cx) (W : WX) (ρe : Option (List Slot)) (ρ : List Slot) (sts : List Stmt) (Z : Rt R) (m : Res R) : Prop where
  ex : ∃ t, PSs X sts t ∧ SRp X W ρe ρ t Z m
structure SC (X : Cx) (W : WX) (ρe : Option (List Slot)) (ρ : List Slot) (sts : List Stmt) (n : S₁ → List Slot) (b : B → List Slot) (Z : Rt R) (m : Res (Ctl S₁ B R)) : Prop where
  ex : ∃ t, PSs X sts t ∧ SCp X W ρe ρ t n b Z m
end
section
variable {S₁ S₂ B R T A : Type} [Rp T] [Rp A] {X : Cx} {W : WX} {g : Bool} {ρe : Option (List Slot)} {ρ ρ' : List Slot} {st : Stmt} {rest sts : List Stmt} {n n1 : S₁ → List Slot} {n2 : S₂ → List Slot} {b : B → List Slot} {Z : Rt R} {e a : Expr} {pos : Pos} {lv : Nat}
  {S own own1 : List Addr} {σ : St} {H H1 : Hp} {K : PySem.W.Frag} {ex : Ex}
theorem ErrS.mono (h : ErrS K W S own H ρe ex) (x : Ext own H own1 H1) : ErrS K W S own1 H1 ρe ex := fun σ' H' own' c d x' r q => h σ' H' own' c d (x.trans x') r q
theorem ErrS.toX (h : ErrS X.K W S own H ρe ex) (rs : RS X.K S ρ σ H own) (w : WkO ρ ρe) : ErrX X W S own σ H ex := fun H' c d s q => h σ H' own c d (Ext.of_same s) (fun r e => by
  subst e
  exact (rs.mono s).wk w) q
theorem NxP.mono {k : St → Hp → Prop} {s : S₁} (h : NxP K S own H k n s) (x : Ext own H own1 H1) : NxP K S own1 H1 k n s := fun σ' H' own' x' r => h σ' H' own' (x.trans x') r
theorem RtP.mono {k : VK} {r : R} (h : RtP K S own H k Z r) (x : Ext own H own1 H1) : RtP K S own1 H1 k Z r := fun v σ' H' own' x' q1 q2 => h v σ' H' own' (x.trans x') q1 q2
theorem CtlP.mono {D : Ends} {z : Ctl S₁ B R} (h : CtlP K S own H D n b Z z) (x : Ext own H own1 H1) : CtlP K S own1 H1 D n b Z z := by
  cases z with
  | nx s => exact NxP.mono h x
  | rt r => exact RtP.mono h x
  | bk s => exact NxP.mono h x
  | ct s => exact NxP.mono h x
/-- an expression within a statement -/
theorem in_stmt {te : TE} {m : Res A} {f : A → Res R} {P : R → Prop} {R' : V → Hp → Prop} (q : EGp X W g ρ te m) (rs : RS X.K S ρ σ H own) (w : WkO ρ ρe) (h : Post (m.bind f) P (ErrS X.K W S own H ρe))
    (k : ∀ x v H', Same H H' → rp X.K (hide (reg g S own) H') v x → Post (f x) P (ErrS X.K W S own H ρe) → R' v H') : te σ H R' :=
  q S own σ H _ rs (h.bind.imp (fun x hx H1 v s1 r1 => k x v H1 s1 r1 hx) fun _ z => z.toX rs w)

/-! ### blocks -/
theorem b_nil {s : S₁} (w : Wk ρ (n s)) : SN X W ρe ρ [] n (.ok s) := ⟨_, pss_nil, fun S own σ H D rs h => h σ H own Ext.refl (rs.wk w)⟩
theorem b_cons {m1 : Res S₂} {m2 : S₂ → Res S₁} (h1 : N1 X W ρe ρ st n2 m1) (h2 : ∀ s, SN X W ρe (n2 s) rest n (m2 s)) : SN X W ρe ρ (st :: rest) n (m1.bind m2) := by
  obtain ⟨t1, p1, q1⟩ := h1.ex
  have dead : PSs X rest tNever := pss_never
  cases m1 with
  | bad => exact ⟨_, pss_cons p1 dead, fun S own σ H D rs h => h.elim⟩
  | err z => exact ⟨_, pss_cons p1 dead, fun S own σ H D rs h => q1 S own σ H _ rs h⟩
  | ok s =>
    obtain ⟨t2, p2, q2⟩ := (h2 s).ex
    exact ⟨_, pss_cons p1 p2, fun S own σ H D rs h => q1 S own σ H _ rs fun σ1 H1 own1 x1 r1 => q2 S own1 σ1 H1 D r1 (Post.imp h (fun _ z => z.mono x1) fun _ z => z.mono x1)⟩
theorem r_cons {m1 : Res S₂} {m2 : S₂ → Res R} (h1 : N1 X W ρe ρ st n2 m1) (h2 : ∀ s, SR X W ρe (n2 s) rest Z (m2 s)) : SR X W ρe ρ (st :: rest) Z (m1.bind m2) := by
  obtain ⟨t1, p1, q1⟩ := h1.ex
  have dead : PSs X rest tNever := pss_never
  cases m1 with
  | bad => exact ⟨_, pss_cons p1 dead, fun S own σ H D rs h => h.elim⟩
  | err z => exact ⟨_, pss_cons p1 dead, fun S own σ H D rs h => q1 S own σ H _ rs h⟩
  | ok s =>
    obtain ⟨t2, p2, q2⟩ := (h2 s).ex
    exact ⟨_, pss_cons p1 p2, fun S own σ H D rs h => q1 S own σ H _ rs fun σ1 H1 own1 x1 r1 => q2 S own1 σ1 H1 D r1 (Post.imp h (fun _ z => z.mono x1) fun _ z => z.mono x1)⟩
theorem c_cons {m1 : Res S₂} {m2 : S₂ → Res (Ctl S₁ B R)} (h1 : N1 X W ρe ρ st n2 m1) (h2 : ∀ s, SC X W ρe (n2 s) rest n b Z (m2 s)) : SC X W ρe ρ (st :: rest) n b Z (m1.bind m2) := by
  obtain ⟨t1, p1, q1⟩ := h1.ex
  have dead : PSs X rest tNever := pss_never
  cases m1 with
  | bad => exact ⟨_, pss_cons p1 dead, fun S own σ H D rs h => h.elim⟩
  | err z => exact ⟨_, pss_cons p1 dead, fun S own σ H D rs h => q1 S own σ H _ rs h⟩
  | ok s =>
    obtain ⟨t2, p2, q2⟩ := (h2 s).ex
    exact ⟨_, pss_cons p1 p2, fun S own σ H D rs h => q1 S own σ H _ rs fun σ1 H1 own1 x1 r1 => q2 S own1 σ1 H1 D r1 (Post.imp h (fun _ z => z.mono x1) fun _ z => z.mono x1)⟩
/-- a statement of any way out, then a block -/
def thenC (m : Res (Ctl S₂ B R)) (f : S₂ → Res (Ctl S₁ B R)) : Res (Ctl S₁ B R) := m.bind fun
  | .nx s => f s
  | .rt r => .ok (.rt r)
  | .bk x => .ok (.bk x)
  | .ct x => .ok (.ct x)
def thenR (m : Res (Ctl S₂ Empty R)) (f : S₂ → Res R) : Res R := m.bind fun
  | .nx s => f s
  | .rt r => .ok r
  | .bk x => nomatch x
  | .ct x => nomatch x
theorem cc_cons {m1 : Res (Ctl S₂ B R)} {m2 : S₂ → Res (Ctl S₁ B R)} (h1 : C1 X W ρe ρ st n2 b Z m1) (h2 : ∀ s, SC X W ρe (n2 s) rest n b Z (m2 s)) : SC X W ρe ρ (st :: rest) n b Z (thenC m1 m2) := by
  obtain ⟨t1, p1, q1⟩ := h1.ex
  have dead : PSs X rest tNever := pss_never
  cases m1 with
  | bad => exact ⟨_, pss_cons p1 dead, fun S own σ H D rs h => h.elim⟩
  | err z => exact ⟨_, pss_cons p1 dead, fun S own σ H D rs h => q1 S own σ H _ rs h⟩
  | ok z =>
    cases z with
    | nx s =>
      obtain ⟨t2, p2, q2⟩ := (h2 s).ex
      exact ⟨_, pss_cons p1 p2, fun S own σ H D rs h => q1 S own σ H _ rs fun σ1 H1 own1 x1 r1 => q2 S own1 σ1 H1 D r1 (Post.imp (show Post (m2 s) _ _ from h) (fun _ z => CtlP.mono z x1) fun _ z => z.mono x1)⟩
    | rt r => exact ⟨_, pss_cons p1 dead, fun S own σ H D rs h => q1 S own σ H _ rs h⟩
    | bk r => exact ⟨_, pss_cons p1 dead, fun S own σ H D rs h => q1 S own σ H _ rs h⟩
    | ct r => exact ⟨_, pss_cons p1 dead, fun S own σ H D rs h => q1 S own σ H _ rs h⟩
theorem rc_cons {b : Empty → List Slot} {m1 : Res (Ctl S₂ Empty R)} {m2 : S₂ → Res R} (h1 : C1 X W ρe ρ st n2 b Z m1) (h2 : ∀ s, SR X W ρe (n2 s) rest Z (m2 s)) : SR X W ρe ρ (st :: rest) Z (thenR m1 m2) := by
  obtain ⟨t1, p1, q1⟩ := h1.ex
  have dead : PSs X rest tNever := pss_never
  cases m1 with
  | bad => exact ⟨_, pss_cons p1 dead, fun S own σ H D rs h => h.elim⟩
  | err z => exact ⟨_, pss_cons p1 dead, fun S own σ H D rs h => q1 S own σ H _ rs h⟩
  | ok z =>
    cases z with
    | nx s =>
      obtain ⟨t2, p2, q2⟩ := (h2 s).ex
      exact ⟨_, pss_cons p1 p2, fun S own σ H D rs h => q1 S own σ H _ rs fun σ1 H1 own1 x1 r1 => q2 S own1 σ1 H1 D r1 (Post.imp (show Post (m2 s) _ _ from h) (fun _ z => z.mono x1) fun _ z => z.mono x1)⟩
    | rt r => exact ⟨_, pss_cons p1 dead, fun S own σ H D rs h => q1 S own σ H _ rs h⟩
    | bk r => exact nomatch r
    | ct r => exact nomatch r
theorem c_nil {s : S₁} (w : Wk ρ (n s)) : SC X W ρe ρ [] n b Z (.ok (.nx s)) := ⟨_, pss_nil, fun S own σ H D rs h => h σ H own Ext.refl (rs.wk w)⟩
theorem c_break {x : B} (w : Wk ρ (b x)) : SC X W ρe ρ (.Break pos :: rest) n b Z (.ok (.bk x)) := ⟨_, pss_cons ps_break pss_never, fun S own σ H D rs h => h σ H own Ext.refl (rs.wk w)⟩
theorem c_cont {x : B} (w : Wk ρ (b x)) : SC X W ρe ρ (.Continue pos :: rest) n b Z (.ok (.ct x)) := ⟨_, pss_cons ps_continue pss_never, fun S own σ H D rs h => h σ H own Ext.refl (rs.wk w)⟩
/-- a block that returns, as one of any way out -/
theorem SR.c {m : Res R} (h : SR X W ρe ρ sts Z m) : SC X W ρe ρ sts n b Z (m.bind fun r => .ok (.rt r)) := by
  obtain ⟨t, p, q⟩ := h.ex
  exact ⟨t, p, fun S own σ H D rs h => q S own σ H D rs (h.bind.imp (fun _ z => z) fun _ z => z)⟩
theorem SN.c {m : Res S₁} (h : SN X W ρe ρ sts n m) : SC X W ρe ρ sts n b Z (m.bind fun r => .ok (.nx r)) := by
  obtain ⟨t, p, q⟩ := h.ex
  exact ⟨t, p, fun S own σ H D rs h => q S own σ H D rs (h.bind.imp (fun _ z => z) fun _ z => z)⟩

/-! ### letting go ahead of a block -/
theorem b_free (i : Nat) {ao : Option Addr} {xs : List T} {m : Res S₁} (h : SN X W ρe ρ' sts n m) (e : ρ[i]? = some (.own T ao xs) := by rfl) (e' : ρ' = ρ.set i (.val (List T) xs) := by rfl) : SN X W ρe ρ sts n m := by
  obtain ⟨t, p, q⟩ := h.ex
  refine ⟨t, p, fun S own σ H D rs hP => ?_⟩
  obtain ⟨own', r, x⟩ := rs.freeze e
  subst e'
  exact q S own' σ H D r (Post.imp hP (fun _ z => z.mono x) fun _ z => z.mono x)
theorem r_free (i : Nat) {ao : Option Addr} {xs : List T} {m : Res R} (h : SR X W ρe ρ' sts Z m) (e : ρ[i]? = some (.own T ao xs) := by rfl) (e' : ρ' = ρ.set i (.val (List T) xs) := by rfl) : SR X W ρe ρ sts Z m := by
  obtain ⟨t, p, q⟩ := h.ex
  refine ⟨t, p, fun S own σ H D rs hP => ?_⟩
  obtain ⟨own', r, x⟩ := rs.freeze e
  subst e'
  exact q S own' σ H D r (Post.imp hP (fun _ z => z.mono x) fun _ z => z.mono x)
theorem c_free (i : Nat) {ao : Option Addr} {xs : List T} {m : Res (Ctl S₁ B R)} (h : SC X W ρe ρ' sts n b Z m) (e : ρ[i]? = some (.own T ao xs) := by rfl) (e' : ρ' = ρ.set i (.val (List T) xs) := by rfl) : SC X W ρe ρ sts n b Z m := by
  obtain ⟨t, p, q⟩ := h.ex
  refine ⟨t, p, fun S own σ H D rs hP => ?_⟩
  obtain ⟨own', r, x⟩ := rs.freeze e
  subst e'
  exact q S own' σ H D r (Post.imp hP (fun _ z => z.mono x) fun _ z => z.mono x)

/-! ### returns -/
/-- any value -/
def retD (T : Type) [Rp T] : Rt T := ⟨fun _ => [], fun K S own H v x => rp K (hide (S ++ own) H) v x⟩
/-- a new list -/
def retF (T : Type) [Rp T] : Rt (List T) := ⟨fun _ => [], fun K S own H v xs => ∃ a vs, v = .ref a ∧ a ∈ own ∧ H a = some (.lst vs) ∧ RpAll K (hide (S ++ own) H) vs xs⟩
theorem rs_nil (rs : RS K S ρ σ H own) : RS K S [] [] H own := ⟨⟨[], .nil, List.nodup_nil, fun _ z => nomatch z⟩, rs.out, rs.dom⟩
theorem r_ret {m : Res T} (h : EG X W true ρ e m) (w : WkO ρ ρe := by first | exact True.intro | (repeat (first | exact Wk.nil | refine Wk.s ?_ | refine Wk.n ?_))) : SR X W ρe ρ (.Return (some e) pos :: rest) (retD T) m := by
  obtain ⟨t, p, q⟩ := h.ex
  refine ⟨_, pss_cons (ps_ret p) pss_never, fun S own σ H D rs h => ?_⟩
  exact q S own σ H D.rt rs (h.imp (fun x hx H' v s r => hx v [] H' own (Ext.of_same s) (rs_nil (rs.mono s)) r) fun _ z => z.toX rs w)
theorem r_retF {m : Res (List T)} (h : FG X W ρ e m) (w : WkO ρ ρe := by first | exact True.intro | (repeat (first | exact Wk.nil | refine Wk.s ?_ | refine Wk.n ?_))) : SR X W ρe ρ (.Return (some e) pos :: rest) (retF T) m := by
  obtain ⟨t, p, q⟩ := h.ex
  refine ⟨_, pss_cons (ps_ret p) pss_never, fun S own σ H D rs h => ?_⟩
  refine q S own σ H D.rt rs (h.imp (fun x hx H' a vs s na e1 e2 => hx (.ref a) [] H' (a :: own) ⟨fun b o z _ => s b o z, fun b z => dom_same s z, fun b z => ?_⟩ ?_ ⟨a, vs, rfl, List.mem_cons_self, e1, ?_⟩) fun _ z => z.toX rs w)
  · rcases List.mem_cons.mp z with z | z
    · exact .inr (z ▸ na)
    · exact .inl z
  · refine ⟨⟨[], .nil, List.nodup_nil, fun _ z => nomatch z⟩, fun b hb => ?_, fun b hb => ?_⟩
    · rcases List.mem_cons.mp hb with z | z
      · exact z ▸ fun y => rs.dom a (List.mem_append_left _ y) na
      · exact rs.out b z
    · rcases List.mem_append.mp hb with z | z
      · exact dom_same s (rs.dom b (List.mem_append_left _ z))
      · rcases List.mem_cons.mp z with z | z
        · rw [z, e1]; intro y; cases y
        · exact dom_same s (rs.dom b (List.mem_append_right _ z))
  · refine RpAll.mono (hide_mono fun b hb => ?_) e2
    rcases List.mem_append.mp hb with z | z
    · exact List.mem_cons_of_mem _ (List.mem_append_left _ z)
    · rcases List.mem_cons.mp z with z | z
      · exact z ▸ List.mem_cons_self
      · exact List.mem_cons_of_mem _ (List.mem_append_right _ z)
/-- a kept list handed back as new -/
theorem r_retOwn (i : Nat) {x : Str} {ao : Option Addr} {xs : List T} {p2 : Pos} (hr : ρ[i]? = some (Slot.own T ao xs) := by rfl) (hN : X.N[i]? = some x := by rfl) (hv : Vis X.env.scope x := by first | exact Or.inl rfl | exact Or.inr (Or.inl rfl) | exact Or.inr (Or.inr rfl))
    (hd : (x == ("__debug__" : Str)) = false := by decide) (hcd : (x == ("__classdict__" : Str)) = false := by decide) : SR X W ρe ρ (.Return (some (.Name x p2)) pos :: rest) (retF T) (.ok xs) := by
  refine ⟨_, pss_cons (ps_ret (pe_var hN hv hd hcd)) pss_never, fun S own σ H D rs h => ?_⟩
  obtain ⟨ads, r, _, h3⟩ := rs.rs
  obtain ⟨a, vs, e, e1, e2, e3, _⟩ := r.own_at hr
  exact ⟨_, e, h (.ref a) [] H own Ext.refl (rs_nil rs) ⟨a, vs, rfl, h3 a e1, e2, e3⟩⟩
theorem SR.of_eq {m m' : Res R} (h : SR X W ρe ρ sts Z m) (z : m = m') : SR X W ρe ρ sts Z m' := z ▸ h

/-! ### simple statements -/
theorem n_set (i : Nat) {x : Str} {m : Res T} {p2 : Pos} {n3 : T → List Slot} (nd : X.N.Nodup) (h : EG X W true ρ e m) (hn : ∀ v, n3 v = ρ.set i (.val T v) := by intro _; rfl) (w : WkO ρ ρe := by first | exact True.intro | (repeat (first | exact Wk.nil | refine Wk.s ?_ | refine Wk.n ?_))) (hi : X.N[i]? = some x := by rfl) (hx : Loc X.env.scope x := by first | exact Or.inl rfl | exact Or.inr rfl)
    (hs : swapsWith e (some (.Name x p2)) pos.line X.env = pure false := by rfl) (hf : X.fn x = true ∨ X.env.scope.names.lookup x = some .local := by first | exact .inl rfl | exact .inr rfl | assumption) : N1 X W ρe ρ (.Assign [.Name x p2] e pos) n3 m := by
  obtain ⟨t, p, q⟩ := h.ex
  refine ⟨_, ps_set nd hi hx p hs hf, fun S own σ H D rs h => ?_⟩
  refine q S own σ H _ rs (h.imp (fun v hv H' u s r => hv _ H' own (Ext.of_same s) ?_) fun _ z => z.toX rs w)
  rw [hn]
  exact (rs.mono s).set r i
end
end Py

set_option Elab.async false
set_option linter.all false
set_option maxRecDepth 100000
set_option maxHeartbeats 1000000
/-! Py, part E: further statements, loops, comprehensions, calls and defs. -/
namespace Py
open PySem PySem.Spec L2
open Rp (rp)

/-- what a loop walks -/
structure WJ (K : PySem.W.Frag) (B : List Addr) (H0 : Hp) (J : It) {T : Type} [Rp T] (xs : List T) : Prop where
  goes : ∀ i H, i < xs.length → Same (hide B H0) H → J.go i H
  stops : ∀ H, Same (hide B H0) H → J.stop xs.length H
  yields : ∀ i H v H' x B2, xs[i]? = some x → Same (hide B H0) (hide B2 H) → (∀ b ∈ B2, H b ≠ none) → J.yld i H v H' → Same H H' ∧ rp K (hide B2 H') v x
abbrev IJp (X : Cx) (W : WX) (ρ : List Slot) (wi : TI) {T : Type} [Rp T] (m : Res (List T)) : Prop :=
  ∀ (S own : List Addr) (σ : St) (H : Hp) (R : It → Hp → Prop), RS X.K S ρ σ H own → Post m (fun xs => ∀ J H', Same H H' → WJ X.K (S ++ own) H' J xs → R J H') (ErrX X W S own σ H) → wi σ H R
structure IJ (X : Cx) (W : WX) (ρ : List Slot) (tg e : Expr) {T : Type} [Rp T] (m : Res (List T)) : Prop where
  ex : ∃ wi, PI X tg e wi ∧ IJp X W ρ wi m
abbrev GJp (X : Cx) (gt : TG) {T : Type} [Rp T] (u : List Slot → T → List Slot) (js : List Nat) : Prop :=
  ∀ (S own : List Addr) (ρ : List Slot) (σ : St) (H : Hp) (v : V) (x : T) (Q : St → Hp → Prop), RS X.K S ρ σ H own → rp X.K (hide (S ++ own) H) v x → (∀ σ', RS X.K S (u ρ x) σ' H own → (∀ vs : List Nat, (∀ i ∈ js, i ∈ vs) → wipe σ' vs = wipe σ vs) → Q σ' H) → gt v σ H Q
/-- a target: what it makes of the slots; the slots that it sets -/
structure GJ (X : Cx) (tg : Expr) {T : Type} [Rp T] (u : List Slot → T → List Slot) (js : List Nat) : Prop where
  ex : ∃ gt, PG X tg gt ∧ GJp X gt u js
theorem wipe_set {σ : St} {i : Nat} {o : Option V} : ∀ {vs : List Nat}, i ∈ vs → wipe (σ.set i o) vs = wipe σ vs
  | v :: vs, h => by
    show (wipe (σ.set i o) vs).set v none = (wipe σ vs).set v none
    by_cases hi : i ∈ vs
    · rw [wipe_set hi]
    · have hv : i = v := (List.mem_cons.mp h).resolve_right hi
      subst hv
      have aux : ∀ ws : List Nat, i ∉ ws → wipe (σ.set i o) ws = (wipe σ ws).set i o := by
        intro ws
        induction ws with
        | nil => intro _; rfl
        | cons w ws ih =>
          intro hn
          show (wipe (σ.set i o) ws).set w none = ((wipe σ ws).set w none).set i o
          rw [ih fun z => hn (List.mem_cons_of_mem _ z)]
          exact List.set_comm _ _ (fun z => hn (z ▸ List.mem_cons_self))
      rw [aux vs hi, List.set_set]

def forR {T S : Type} (f : S → T → Res S) : List T → S → Res S
  | [], s => .ok s
  | x :: r, s => (f s x).bind fun s' => forR f r s'
def forC {T S B R : Type} (f : S → T → Res (Ctl S S R)) : List T → S → Res (Ctl S B R)
  | [], s => .ok (.nx s)
  | x :: r, s => (f s x).bind fun
    | .nx s' => forC f r s'
    | .ct s' => forC f r s'
    | .bk s' => .ok (.nx s')
    | .rt z => .ok (.rt z)
def whileM {S : Type} (c : S → Res Bool) (f : S → Res S) : Nat → S → Res S
  | 0, _ => .bad
  | n + 1, s => (c s).bind fun b => if b then (f s).bind fun s' => whileM c f n s' else .ok s
def whileC {S B R : Type} (c : S → Res Bool) (f : S → Res (Ctl S S R)) : Nat → S → Res (Ctl S B R)
  | 0, _ => .bad
  | n + 1, s => (c s).bind fun b => if b then (f s).bind fun
      | .nx s' => whileC c f n s'
      | .ct s' => whileC c f n s'
      | .bk s' => .ok (.nx s')
      | .rt z => .ok (.rt z) else .ok (.nx s)
/-- a comprehension -/
def lcM {T U : Type} (t : T → Res Bool) (f : T → Res U) : List T → Res (List U)
  | [] => .ok []
  | x :: r => (t x).quiet.bind fun b => if b then (f x).quiet.bind fun y => (lcM t f r).bind fun ys => .ok (y :: ys) else lcM t f r

section
variable {S₁ S₂ B R T A U : Type} [Rp T] [Rp A] [Rp U] {X : Cx} {W : WX} {g : Bool} {ρe : Option (List Slot)} {ρ ρ' : List Slot} {st : Stmt} {rest sts : List Stmt} {n n1 : S₁ → List Slot} {n2 : S₂ → List Slot} {b : B → List Slot} {Z : Rt R} {e a tg : Expr} {pos : Pos} {lv : Nat}

/-! ### simple statements -/
theorem n_setF (i : Nat) {x : Str} {m : Res (List T)} {p2 : Pos} {n3 : List T → List Slot} (nd : X.N.Nodup) (h : FG X W ρ e m) (hn : ∀ v, n3 v = ρ.set i (.own T none v) := by intro _; rfl) (hl : i < ρ.length := by exact Nat.le_of_ble_eq_true rfl) (w : WkO ρ ρe := by first | exact True.intro | (repeat (first | exact Wk.nil | refine Wk.s ?_ | refine Wk.n ?_))) (hi : X.N[i]? = some x := by rfl) (hx : Loc X.env.scope x := by first | exact Or.inl rfl | exact Or.inr rfl)
    (hs : swapsWith e (some (.Name x p2)) pos.line X.env = pure false := by rfl) (hf : X.fn x = true ∨ X.env.scope.names.lookup x = some .local := by first | exact .inl rfl | exact .inr rfl | assumption) : N1 X W ρe ρ (.Assign [.Name x p2] e pos) n3 m := by
  obtain ⟨t, p, q⟩ := h.ex
  refine ⟨_, ps_set nd hi hx p hs hf, fun S own σ H D rs h => ?_⟩
  refine q S own σ H _ rs (h.imp (fun v hv H' a vs s na e1 e2 => hv _ H' (a :: own) ⟨fun b o z _ => s b o z, fun b z => dom_same s z, fun b z => ?_⟩ ?_) fun _ z => z.toX rs w)
  · rcases List.mem_cons.mp z with z | z
    · exact .inr (z ▸ na)
    · exact .inl z
  · rw [hn]
    exact rs.setOwn s na e1 e2 i hl
theorem RS.own_at {K : PySem.W.Frag} {S own : List Addr} {σ : St} {H : Hp} {i : Nat} {ao : Option Addr} {xs : List T} (rs : RS K S ρ σ H own) (hr : ρ[i]? = some (Slot.own T ao xs)) : ∃ a vs, σ[i]? = some (some (.ref a)) ∧ a ∈ own ∧ H a = some (.lst vs) ∧ RpAll K (hide (S ++ own) H) vs xs := by
  obtain ⟨ads, r, _, h3⟩ := rs.rs
  obtain ⟨a, vs, e, e1, e2, e3, _⟩ := r.own_at hr
  exact ⟨a, vs, e, h3 a e1, e2, e3⟩
def appM {α : Type} (xs : List α) (x : α) : Res (List α) := guardR (decide (xs.length < sizeLine)) (.ok (xs ++ [x]))
theorem n_app (i : Nat) {x : Str} {ao : Option Addr} {xs : List T} {m : Res T} {p1 p2 p3 : Pos} {n3 : List T → List Slot} (h : EG X W true ρ e m) (hr : ρ[i]? = some (Slot.own T ao xs) := by rfl) (hn : ∀ v, n3 v = ρ.set i (.own T ao v) := by intro _; rfl) (w : WkO ρ ρe := by first | exact True.intro | (repeat (first | exact Wk.nil | refine Wk.s ?_ | refine Wk.n ?_))) (hN : X.N[i]? = some x := by rfl)
    (hv : Vis X.env.scope x := by first | exact Or.inl rfl | exact Or.inr (Or.inl rfl) | exact Or.inr (Or.inr rfl)) (hd : (x == ("__debug__" : Str)) = false := by decide) (hcd : (x == ("__classdict__" : Str)) = false := by decide)
    (hbase : attributeBase (.Name x p1) "append" X.env (eval (.Name x p1) X.env) = eval (.Name x p1) X.env := by rfl) (hline : (p2.endLine == p3.line) = true := by rfl) (hst : starEach (e :: []) X.env = (false, eval e X.env) :: starEach [] X.env := by rfl)
    (hpl : (backTo p3 (starEach [] X.env)).any (·.1) = false := by rfl) (hs : swapsWith (.Call (.Attribute (.Name x p1) "append" p2) [e] [] p3) none pos.line X.env = pure false := by rfl)
    (hfew : ((backTo p3 (starEach (e :: []) X.env)).all (fun x => !x.1) && (backToKw p3 (keywordEach [] X.env)).all (fun x => x.1.isSome) && decide ((e :: []).length + ([] : List Keyword).length + (if ([] : List Keyword).isEmpty then 0 else 1) < 30)) = true := by rfl) :
    N1 X W ρe ρ (.Expr (.Call (.Attribute (.Name x p1) "append" p2) [e] [] p3) pos) n3 (m.bind fun v => appM xs v) := by
  obtain ⟨t, p, q⟩ := h.ex
  refine ⟨_, ps_expr (pe_bm PySem.F.plainAttrs_list PySem.F.slot_list_append PySem.F.type_list_append mt_append (pe_var hN hv hd hcd) (pa_cons p pa_nil hst) hbase hfew hline hst hpl) hs, fun S own σ H D rs hP => ?_⟩
  obtain ⟨a, vs, e1, e2, e3, e4⟩ := rs.own_at hr
  refine ⟨_, e1, .inl ⟨rfl, vs, .inl (.inl e3)⟩, ?_⟩
  refine in_stmt (R' := fun v H2 => rAppend (.ref a) [v] H2 fun _ H1 => D.nx σ H1) q rs w hP fun x v H' s r hx => ?_
  obtain ⟨h1, hx⟩ := hx.guard
  have r4 := (RpAll.mono (hide_same s) e4)
  refine ⟨a, vs, v, rfl, rfl, s _ _ e3, by rw [e4.length]; exact of_decide_eq_true h1, ?_⟩
  obtain ⟨w1, w2⟩ := (rs.mono s).write hr e1 (r4.append (.cons r .nil))
  exact hx σ _ own ((Ext.of_same s).trans w2) (by rw [hn]; exact w1)
def setM {α : Type} (xs : List α) (i : Int) (x : α) : Res (List α) := match ixN xs.length i with
  | some j => .ok (xs.set j x)
  | none => .bad
theorem n_setix (i : Nat) {x : Str} {ao : Option Addr} {xs : List T} {m : Res T} {mi : Res Int} {ie : Expr} {p1 p2 : Pos} {n3 : List T → List Slot} (h : EG X W true ρ e m) (hI : EG X W true ρ ie mi) (hr : ρ[i]? = some (Slot.own T ao xs) := by rfl) (hn : ∀ v, n3 v = ρ.set i (.own T ao v) := by intro _; rfl) (w : WkO ρ ρe := by first | exact True.intro | (repeat (first | exact Wk.nil | refine Wk.s ?_ | refine Wk.n ?_)))
    (hN : X.N[i]? = some x := by rfl) (hv : Vis X.env.scope x := by first | exact Or.inl rfl | exact Or.inr (Or.inl rfl) | exact Or.inr (Or.inr rfl)) (hd : (x == ("__debug__" : Str)) = false := by decide) (hcd : (x == ("__classdict__" : Str)) = false := by decide)
    (ha : ∀ v, assign (.Subscript (.Name x p1) ie p2) X.env v = (do
      let ov ← holding [v] (eval (.Name x p1) X.env)
      let iv ← holding [v, ov] (eval ie X.env)
      standAt p2
      holding [v, ov, iv] (setItem ov iv v)
      release [v, ov, iv] []) := by intro _; rfl)
    (hs : swapsWithSole [.Subscript (.Name x p1) ie p2] e pos.line X.env = pure false := by rfl) (hw : swappedStores [.Subscript (.Name x p1) ie p2] e X.env = pure none := by rfl)
    (h1 : (assignEach [.Subscript (.Name x p1) ie p2] X.env).map (·.2) = [assign (.Subscript (.Name x p1) ie p2) X.env] := by rfl) :
    N1 X W ρe ρ (.Assign [.Subscript (.Name x p1) ie p2] e pos) n3 (m.bind fun v => mi.bind fun k => setM xs k v) := by
  obtain ⟨t, p, q⟩ := h.ex
  obtain ⟨ti, pi, qi⟩ := hI.ex
  refine ⟨_, ps_asg p (pg_sub (pe_var hN hv hd hcd) pi set_list ha) hs hw h1, fun S own σ H D rs hP => ?_⟩
  obtain ⟨a, vs, e1, e2, e3, e4⟩ := rs.own_at hr
  refine in_stmt (f := fun v => mi.bind fun k => setM xs k v) (R' := fun v H2 => gSub (tVar i) ti rSetL v σ H2 D.nx) q rs w hP fun y v H' s r hx => ?_
  refine ⟨_, e1, ?_⟩
  refine in_stmt (f := fun k => setM xs k y) (R' := fun u H2 => rSetL (.ref a) u v H2 fun H3 => D.nx σ H3) qi (rs.mono s) w (Post.imp hx (fun _ z => z) fun _ z => z.mono (Ext.of_same s)) fun k u H2 s2 r2 hk => ?_
  cases r2
  unfold setM at hk
  have s3 := s.trans s2
  cases ej : ixN xs.length k with
  | none => rw [ej] at hk; exact hk.elim
  | some j =>
    rw [ej] at hk
    refine ⟨a, vs, k, j, rfl, rfl, s3 _ _ e3, by rw [e4.length]; exact ej, ?_⟩
    obtain ⟨w1, w2⟩ := ((rs.mono s).mono s2).write hr e1 ((RpAll.mono (hide_same s3) e4).set (Rp.mono (hide_same s2) r) j)
    exact hk σ _ own ((Ext.of_same s3).trans w2) (by rw [hn]; exact w1)
theorem n_expr {m : Res T} {g : Bool} (h : EG X W g ρ e m) (w : WkO ρ ρe := by first | exact True.intro | (repeat (first | exact Wk.nil | refine Wk.s ?_ | refine Wk.n ?_))) (hs : swapsWith e none pos.line X.env = pure false := by rfl) : N1 X W ρe ρ (.Expr e pos) (fun _ : T => ρ) m := by
  obtain ⟨t, p, q⟩ := h.ex
  refine ⟨_, ps_expr p hs, fun S own σ H D rs h => ?_⟩
  exact q S own σ H _ rs (h.imp (fun v hv H' u s r => hv σ H' own (Ext.of_same s) (rs.mono s)) fun _ z => z.toX rs w)
theorem n_pass : N1 X W ρe ρ (.Pass pos) (fun _ : Unit => ρ) (.ok ()) := ⟨_, ps_pass, fun S own σ H D rs h => h σ H own Ext.refl rs⟩
theorem n_doc {x j p2} : N1 X W ρe ρ (.Expr (.Constant (.str x) j p2) pos) (fun _ : Unit => ρ) (.ok ()) := ⟨_, ps_doc, fun S own σ H D rs h => h σ H own Ext.refl rs⟩
theorem n_aug (i : Nat) {x : Str} {op : Operator} {f : Int → Int → Int} {v0 : Int} {m : Res Int} {p2 : Pos} {n3 : Int → List Slot} (nd : X.N.Nodup) (ho : PIp X op (ipI f)) (h : EG X W true ρ e m) (hr : ρ[i]? = some (Slot.val Int v0) := by rfl) (hn : ∀ v, n3 v = ρ.set i (.val Int v) := by intro _; rfl) (w : WkO ρ ρe := by first | exact True.intro | (repeat (first | exact Wk.nil | refine Wk.s ?_ | refine Wk.n ?_))) (hi : X.N[i]? = some x := by rfl) (hx : Loc X.env.scope x := by first | exact Or.inl rfl | exact Or.inr rfl)
    (hf : X.fn x = true ∨ X.env.scope.names.lookup x = some .local := by first | exact .inl rfl | exact .inr rfl | assumption) : N1 X W ρe ρ (.AugAssign (.Name x p2) op e pos) n3 (m.bind fun y => .ok (f v0 y)) := by
  obtain ⟨t, p, q⟩ := h.ex
  refine ⟨_, ps_aug nd hi hx p ho hf, fun S own σ H D rs h => ?_⟩
  obtain ⟨ads, r, _, _⟩ := rs.rs
  obtain ⟨u, e1, e2⟩ := r.val_at hr
  cases e2
  refine ⟨_, e1, ?_⟩
  refine in_stmt (f := fun y => .ok (f v0 y)) (R' := fun y H1 => ipI f (.int v0) y H1 fun z H2 => D.nx (σ.set i (some z)) H2) q rs w h fun y v H' s r1 hx => ?_
  cases r1
  refine ⟨v0, y, rfl, rfl, hx _ H' own (Ext.of_same s) ?_⟩
  rw [hn]
  exact (rs.mono s).set rfl i

/-! ### if -/
theorem if_run {c : Expr} {tc : TT} {mc : Res Bool} {S own : List Addr} {σ : St} {H : Hp} {P : R → Prop} {f : Bool → Res R} {k : Bool → Hp → Prop} (qc : TJp X W ρ tc mc) (rs : RS X.K S ρ σ H own) (w : WkO ρ ρe) (h : Post (mc.bind f) P (ErrS X.K W S own H ρe))
    (hk : ∀ b H', Same H H' → Post (f b) P (ErrS X.K W S own H ρe) → k b H') : tc σ H k :=
  qc S own σ H _ rs (h.bind.imp (fun b hb H1 s => hk b H1 s hb) fun _ z => z.toX rs w)
theorem n_if {c : Expr} {sa sb : List Stmt} {mc : Res Bool} {ma mb : Res S₁} (hc : TJ X W ρ c mc) (h1 : SN X W ρe ρ sa n ma) (h2 : SN X W ρe ρ sb n mb) (w : WkO ρ ρe := by first | exact True.intro | (repeat (first | exact Wk.nil | refine Wk.s ?_ | refine Wk.n ?_))) : N1 X W ρe ρ (.If c sa sb pos) n (mc.bind fun k => if k then ma else mb) := by
  obtain ⟨tc, pc, qc⟩ := hc.ex
  obtain ⟨ta, pa, qa⟩ := h1.ex
  obtain ⟨tb, pb, qb⟩ := h2.ex
  refine ⟨_, ps_if pc pa pb, fun S own σ H D rs h => if_run (c := c) qc rs w h fun k H' s hk => ?_⟩
  cases k with
  | true => rw [if_pos rfl]; exact qa S own σ H' D (rs.mono s) (Post.imp (show Post ma _ _ from hk) (fun _ z => z.mono (Ext.of_same s)) fun _ z => z.mono (Ext.of_same s))
  | false => rw [if_neg Bool.false_ne_true]; exact qb S own σ H' D (rs.mono s) (Post.imp (show Post mb _ _ from hk) (fun _ z => z.mono (Ext.of_same s)) fun _ z => z.mono (Ext.of_same s))
theorem c_if {c : Expr} {sa sb : List Stmt} {mc : Res Bool} {ma mb : Res (Ctl S₁ B R)} (hc : TJ X W ρ c mc) (h1 : SC X W ρe ρ sa n b Z ma) (h2 : SC X W ρe ρ sb n b Z mb) (w : WkO ρ ρe := by first | exact True.intro | (repeat (first | exact Wk.nil | refine Wk.s ?_ | refine Wk.n ?_))) : C1 X W ρe ρ (.If c sa sb pos) n b Z (mc.bind fun k => if k then ma else mb) := by
  obtain ⟨tc, pc, qc⟩ := hc.ex
  obtain ⟨ta, pa, qa⟩ := h1.ex
  obtain ⟨tb, pb, qb⟩ := h2.ex
  refine ⟨_, ps_if pc pa pb, fun S own σ H D rs h => if_run (c := c) qc rs w h fun k H' s hk => ?_⟩
  cases k with
  | true => rw [if_pos rfl]; exact qa S own σ H' D (rs.mono s) (Post.imp (show Post ma _ _ from hk) (fun _ z => CtlP.mono z (Ext.of_same s)) fun _ z => z.mono (Ext.of_same s))
  | false => rw [if_neg Bool.false_ne_true]; exact qb S own σ H' D (rs.mono s) (Post.imp (show Post mb _ _ from hk) (fun _ z => CtlP.mono z (Ext.of_same s)) fun _ z => z.mono (Ext.of_same s))
/-- if that returns on its yes, then the rest -/
theorem r_if {c : Expr} {sa : List Stmt} {mc : Res Bool} {ma mb : Res R} (hc : TJ X W ρ c mc) (h1 : SR X W ρe ρ sa Z ma) (h2 : SR X W ρe ρ rest Z mb) (w : WkO ρ ρe := by first | exact True.intro | (repeat (first | exact Wk.nil | refine Wk.s ?_ | refine Wk.n ?_))) : SR X W ρe ρ (.If c sa [] pos :: rest) Z (mc.bind fun k => if k then ma else mb) := by
  obtain ⟨tc, pc, qc⟩ := hc.ex
  obtain ⟨ta, pa, qa⟩ := h1.ex
  obtain ⟨tb, pb, qb⟩ := h2.ex
  refine ⟨_, pss_cons (ps_if pc pa pss_nil) pb, fun S own σ H D rs h => if_run (c := c) qc rs w h fun k H' s hk => ?_⟩
  cases k with
  | true => rw [if_pos rfl]; exact qa S own σ H' _ (rs.mono s) (Post.imp (show Post ma _ _ from hk) (fun _ z => z.mono (Ext.of_same s)) fun _ z => z.mono (Ext.of_same s))
  | false => rw [if_neg Bool.false_ne_true]; exact qb S own σ H' D (rs.mono s) (Post.imp (show Post mb _ _ from hk) (fun _ z => z.mono (Ext.of_same s)) fun _ z => z.mono (Ext.of_same s))
/-- both return -/
theorem r_if2 {c : Expr} {sa sb : List Stmt} {mc : Res Bool} {ma mb : Res R} (hc : TJ X W ρ c mc) (h1 : SR X W ρe ρ sa Z ma) (h2 : SR X W ρe ρ sb Z mb) (w : WkO ρ ρe := by first | exact True.intro | (repeat (first | exact Wk.nil | refine Wk.s ?_ | refine Wk.n ?_))) : SR X W ρe ρ (.If c sa sb pos :: rest) Z (mc.bind fun k => if k then ma else mb) := by
  obtain ⟨tc, pc, qc⟩ := hc.ex
  obtain ⟨ta, pa, qa⟩ := h1.ex
  obtain ⟨tb, pb, qb⟩ := h2.ex
  refine ⟨_, pss_cons (ps_if pc pa pb) pss_never, fun S own σ H D rs h => if_run (c := c) qc rs w h fun k H' s hk => ?_⟩
  cases k with
  | true => rw [if_pos rfl]; exact qa S own σ H' _ (rs.mono s) (Post.imp (show Post ma _ _ from hk) (fun _ z => z.mono (Ext.of_same s)) fun _ z => z.mono (Ext.of_same s))
  | false => rw [if_neg Bool.false_ne_true]; exact qb S own σ H' _ (rs.mono s) (Post.imp (show Post mb _ _ from hk) (fun _ z => z.mono (Ext.of_same s)) fun _ z => z.mono (Ext.of_same s))
/-! ### targets -/
theorem g_name (i : Nat) {x : Str} (nd : X.N.Nodup) (hi : X.N[i]? = some x := by rfl) (hx : Loc X.env.scope x := by first | exact Or.inl rfl | exact Or.inr rfl) (hf : X.fn x = true ∨ X.env.scope.names.lookup x = some .local := by first | exact .inl rfl | exact .inr rfl | assumption) : GJ X (.Name x pos) (fun ρ (v : T) => ρ.set i (.val T v)) [i] :=
  ⟨_, pg_name nd hi hx hf, fun S own ρ σ H v x Q rs r h => h _ (rs.set r i) fun vs hv => wipe_set (hv i List.mem_cons_self)⟩
theorem g_pair {e1 e2 : Expr} {k} {u1 : List Slot → T → List Slot} {u2 : List Slot → A → List Slot} {j1 j2 : List Nat} (hc : X.calm = true) (h1 : GJ X e1 u1 j1) (h2 : GJ X e2 u2 j2)
    (hn : (assignEach [e1, e2] X.env).length = 2 := by rfl) (hst : (assignEach [e1, e2] X.env).findIdx? (·.1) = none := by rfl) (hs1 : (assignEach (e1 :: [e2]) X.env).map (·.2) = assign e1 X.env :: (assignEach [e2] X.env).map (·.2) := by rfl) (hs2 : (assignEach (e2 :: []) X.env).map (·.2) = assign e2 X.env :: (assignEach [] X.env).map (·.2) := by rfl) :
    GJ X (.Tuple [e1, e2] k pos) (fun ρ (p : T × A) => u2 (u1 ρ p.1) p.2) (j1 ++ j2) := by
  obtain ⟨g1, p1, q1⟩ := h1.ex
  obtain ⟨g2, p2, q2⟩ := h2.ex
  refine ⟨_, pg_tup hc (pgs_cons p1 (pgs_cons p2 pgs_nil hs2) hs1) hn hst, fun S own ρ σ H v x Q rs r h => ?_⟩
  obtain ⟨p, vs, rfl, e1, r2⟩ := r
  obtain ⟨x1, x2⟩ := x
  cases r2 with
  | cons ra r2 =>
    cases r2 with
    | cons rb r3 =>
      cases r3
      exact ⟨p, _, rfl, SqT.same hide_sub e1, rfl, _, _, rfl, q1 S own ρ σ H _ x1 _ rs ra fun σ1 rs1 t1 => ⟨_, _, rfl, q2 S own _ σ1 H _ x2 _ rs1 rb fun σ2 rs2 t2 => ⟨rfl, h σ2 rs2 fun vs hv => (t2 vs fun i hi => hv i (List.mem_append_right _ hi)).trans (t1 vs fun i hi => hv i (List.mem_append_left _ hi))⟩⟩⟩
theorem g_three {B : Type} [Rp B] {e1 e2 e3 : Expr} {k} {u1 : List Slot → T → List Slot} {u2 : List Slot → A → List Slot} {u3 : List Slot → B → List Slot} {j1 j2 j3 : List Nat} (hc : X.calm = true) (h1 : GJ X e1 u1 j1) (h2 : GJ X e2 u2 j2) (h3 : GJ X e3 u3 j3)
    (hn : (assignEach [e1, e2, e3] X.env).length = 3 := by rfl) (hst : (assignEach [e1, e2, e3] X.env).findIdx? (·.1) = none := by rfl) (hs1 : (assignEach (e1 :: [e2, e3]) X.env).map (·.2) = assign e1 X.env :: (assignEach [e2, e3] X.env).map (·.2) := by rfl)
    (hs2 : (assignEach (e2 :: [e3]) X.env).map (·.2) = assign e2 X.env :: (assignEach [e3] X.env).map (·.2) := by rfl) (hs3 : (assignEach (e3 :: []) X.env).map (·.2) = assign e3 X.env :: (assignEach [] X.env).map (·.2) := by rfl) :
    GJ X (.Tuple [e1, e2, e3] k pos) (fun ρ (p : T3 T A B) => u3 (u2 (u1 ρ p.a) p.b) p.c) (j1 ++ (j2 ++ j3)) := by
  obtain ⟨g1, p1, q1⟩ := h1.ex
  obtain ⟨g2, p2, q2⟩ := h2.ex
  obtain ⟨g3, p3, q3⟩ := h3.ex
  refine ⟨_, pg_tup hc (pgs_cons p1 (pgs_cons p2 (pgs_cons p3 pgs_nil hs3) hs2) hs1) hn hst, fun S own ρ σ H v x Q rs r h => ?_⟩
  obtain ⟨p, vs, rfl, e1, r2⟩ := r
  obtain ⟨x1, x2, x3⟩ := x
  cases r2 with
  | cons ra r2 =>
    cases r2 with
    | cons rb r3 =>
      cases r3 with
      | cons rc r4 =>
        cases r4
        exact ⟨p, _, rfl, SqT.same hide_sub e1, rfl, _, _, rfl, q1 S own ρ σ H _ x1 _ rs ra fun σ1 rs1 t1 => ⟨_, _, rfl, q2 S own _ σ1 H _ x2 _ rs1 rb fun σ2 rs2 t2 => ⟨_, _, rfl, q3 S own _ σ2 H _ x3 _ rs2 rc fun σ3 rs3 t3 => ⟨rfl, h σ3 rs3 fun vs hv => ((t3 vs fun i hi => hv i (List.mem_append_right _ (List.mem_append_right _ hi))).trans (t2 vs fun i hi => hv i (List.mem_append_right _ (List.mem_append_left _ hi)))).trans (t1 vs fun i hi => hv i (List.mem_append_left _ hi))⟩⟩⟩⟩
/-- a, b = e -/
theorem n_unp {m : Res T} {u : List Slot → T → List Slot} {js : List Nat} {n3 : T → List Slot} (h : EG X W true ρ e m) (hg : GJ X tg u js) (hn : ∀ v, n3 v = u ρ v := by intro _; rfl) (w : WkO ρ ρe := by first | exact True.intro | (repeat (first | exact Wk.nil | refine Wk.s ?_ | refine Wk.n ?_)))
    (hs : swapsWithSole [tg] e pos.line X.env = pure false := by rfl) (hw : swappedStores [tg] e X.env = pure none := by rfl) (h1 : (assignEach [tg] X.env).map (·.2) = [assign tg X.env] := by rfl) : N1 X W ρe ρ (.Assign [tg] e pos) n3 m := by
  obtain ⟨t, p, q⟩ := h.ex
  obtain ⟨gt, pg, qg⟩ := hg.ex
  refine ⟨_, ps_asg p pg hs hw h1, fun S own σ H D rs h => ?_⟩
  refine q S own σ H _ rs (h.imp (fun v hv H' w' s r => qg S own ρ σ H' w' v _ (rs.mono s) r fun σ' rs' _ => hv σ' H' own (Ext.of_same s) ?_) fun _ z => z.toX rs w)
  rw [hn]
  exact rs'
/-- a, b = x, y (locals) -/
theorem n_par (i j : Nat) {x y : Str} {a b : Expr} {px py pt : Pos} {kt k2 pt2} {m1 : Res T} {m2 : Res A} {n3 : T × A → List Slot} (hc : X.calm = true) (nd : X.N.Nodup) (ha : EG X W true ρ a m1) (hb : EG X W true ρ b m2) (hn : ∀ v, n3 v = (ρ.set i (.val T v.1)).set j (.val A v.2) := by intro _; rfl) (w : WkO ρ ρe := by first | exact True.intro | (repeat (first | exact Wk.nil | refine Wk.s ?_ | refine Wk.n ?_)))
    (hi : X.N[i]? = some x := by rfl) (hj : X.N[j]? = some y := by rfl) (hij : i ≠ j := by decide) (hx : X.env.scope.names.lookup x = some .local := by rfl) (hy : X.env.scope.names.lookup y = some .local := by rfl)
    (hw : swappedStores [.Tuple [.Name x px, .Name y py] kt pt] (.Tuple [a, b] k2 pt2) X.env = pure (some [x, y]) := by rfl) (hs : swapsWithSole [.Tuple [.Name x px, .Name y py] kt pt] (.Tuple [a, b] k2 pt2) pos.line X.env = pure false := by rfl)
    (he : starEach [a, b] X.env = (false, eval a X.env) :: starEach [b] X.env := by rfl) (he2 : starEach [b] X.env = (false, eval b X.env) :: starEach [] X.env := by rfl) :
    N1 X W ρe ρ (.Assign [.Tuple [.Name x px, .Name y py] kt pt] (.Tuple [a, b] k2 pt2) pos) n3 (m1.bind fun u => m2.bind fun v => .ok (u, v)) := by
  obtain ⟨t1, p1, q1⟩ := ha.ex
  obtain ⟨t2, p2, q2⟩ := hb.ex
  refine ⟨_, ps_par hc nd hi hj hij hx hy (pa_cons p1 (pa_cons p2 pa_nil he2) he) hw hs, fun S own σ H D rs h => ?_⟩
  refine in_stmt (f := fun u => m2.bind fun v => .ok (u, v)) (R' := fun v H1 => t2 σ H1 fun u H2 => ∃ v' w', [v, u] = [v', w'] ∧ D.nx ((σ.set i (some v')).set j (some w')) H2) q1 rs w h fun u v H' s r hx => ?_
  refine in_stmt (f := fun v => .ok (u, v)) (R' := fun w1 H2 => ∃ v' w', [v, w1] = [v', w'] ∧ D.nx ((σ.set i (some v')).set j (some w')) H2) q2 (rs.mono s) w (Post.imp hx (fun _ z => z) fun _ z => z.mono (Ext.of_same s)) fun v2 w2 H2 s2 r2 hk => ?_
  refine ⟨v, w2, rfl, hk _ H2 own (Ext.of_same (s.trans s2)) ?_⟩
  rw [hn]
  exact (((rs.mono s).mono s2).set (Rp.mono (hide_same s2) r) i).set r2 j

/-! ### what is walked -/
theorem i_list {m : Res (List T)} (h : EG X W true ρ e m) : IJ X W ρ tg e m := by
  obtain ⟨t, p, q⟩ := h.ex
  refine ⟨_, pi_list p, fun S own σ H R rs hp => q S own σ H _ rs (hp.imp (fun xs hx H' v s r => ?_) fun _ z => z)⟩
  obtain ⟨a, vs, rfl, e1, e2⟩ := r
  have there : ∀ H2, Same (hide (S ++ own) H') H2 → SqL X.K H2 a vs := fun H2 s2 => .inl (.inl (s2 _ _ e1))
  refine ⟨a, rfl, ⟨vs, .inl (.inl (hide_sub _ _ e1))⟩, hx _ H' s ⟨fun i H2 hi s2 => ?_, fun H2 s2 => ⟨vs, there H2 s2, by rw [e2.length]; exact Nat.le_refl _⟩, fun i H2 v H3 x B2 ei s2 hd hy => ?_⟩⟩
  · have h2 : i < vs.length := by rw [e2.length]; exact hi
    exact ⟨vs, vs[i], there H2 s2, List.getElem?_eq_getElem h2⟩
  · obtain ⟨rfl, f⟩ := hy
    obtain ⟨v', e3, r3⟩ := e2.get ei
    have e4 := f vs (there _ (s2.trans hide_sub))
    rw [e3] at e4
    cases e4
    exact ⟨Same.refl _, Rp.mono s2 r3⟩
theorem i_tup {m : Res (Tup T)} (h : EG X W true ρ e m) : IJ X W ρ tg e (m.bind fun x => .ok x.l) := by
  obtain ⟨t, p, q⟩ := h.ex
  refine ⟨_, pi_tup p, fun S own σ H R rs hp => q S own σ H _ rs (hp.bind.imp (fun xs hx H' v s r => ?_) fun _ z => z)⟩
  obtain ⟨a, vs, rfl, e1, e2⟩ := r
  refine ⟨a, rfl, ⟨vs, SqT.same hide_sub e1⟩, hx _ H' s ⟨fun i H2 hi s2 => ?_, fun H2 s2 => ⟨vs, SqT.same s2 e1, by rw [e2.length]; exact Nat.le_refl _⟩, fun i H2 v H3 x B2 ei s2 hd hy => ?_⟩⟩
  · have h2 : i < vs.length := by rw [e2.length]; exact hi
    exact ⟨vs, vs[i], SqT.same s2 e1, List.getElem?_eq_getElem h2⟩
  · obtain ⟨rfl, f⟩ := hy
    obtain ⟨v', e3, r3⟩ := e2.get ei
    have e4 := f vs (SqT.same (s2.trans hide_sub) e1)
    rw [e3] at e4
    cases e4
    exact ⟨Same.refl _, Rp.mono s2 r3⟩
def inRange (j : Int) : Bool := decide (-(2 ^ 62) ≤ j) && decide (j < 2 ^ 62)
theorem inRange_ok {j : Int} (h : inRange j = true) : -(2 ^ 62) ≤ j ∧ j < 2 ^ 62 := by
  unfold inRange at h
  simp only [Bool.and_eq_true, decide_eq_true_eq] at h
  exact h
/-- range(lo, hi) -/
def rng (lo hi : Int) : List Int := (List.range (hi - lo).toNat).map fun i : Nat => lo + (i : Int)
theorem rng_length (lo hi : Int) : (rng lo hi).length = (hi - lo).toNat := by unfold rng; rw [List.length_map, List.length_range]
theorem rng_get {lo hi x : Int} {i : Nat} (h : (rng lo hi)[i]? = some x) : x = lo + (i : Int) := by
  unfold rng at h
  rw [List.getElem?_map] at h
  cases e : (List.range (hi - lo).toNat)[i]? with
  | none => rw [e] at h; cases h
  | some k =>
    rw [e] at h
    have : k = i := by
      rw [List.getElem?_eq_some_iff] at e
      obtain ⟨h1, h2⟩ := e
      rw [List.getElem_range] at h2
      exact h2.symm
    subst this
    cases h
    rfl
theorem wj_range {K : PySem.W.Frag} {B : List Addr} {H0 : Hp} {lo hi : Int} : WJ K B H0 (Itr lo (hi - lo).toNat) (rng lo hi) := by
  refine ⟨fun i H hi s => ?_, fun H s => ?_, fun i H v H' x B2 ei s hd hy => ?_⟩
  · show i < _
    rw [rng_length] at hi
    exact hi
  · show _ ≤ (rng lo hi).length
    rw [rng_length]
    exact Nat.le_refl _
  · obtain ⟨rfl, rfl⟩ := hy
    exact ⟨Same.refl _, by rw [rng_get ei]; rfl⟩
theorem i_range1 {m : Res Int} {p : Pos} (h : EG X W true ρ a m) (hm : X.mg "range" = none) (hg : Gl X "range" := by rfl) (hs : starEach [a] X.env = [(false, eval a X.env)] := by rfl) (he : starEach (a :: []) X.env = (false, eval a X.env) :: starEach [] X.env := by rfl) :
    IJ X W ρ tg (.Call (.Name "range" p) [a] [] pos) (m.bind fun j => guardR (inRange j) (.ok (rng 0 j))) := by
  obtain ⟨t, p, q⟩ := h.ex
  refine ⟨_, pi_range1 hg hm (pa_cons p pa_nil he) hs, fun S own σ H R rs hp => q S own σ H _ rs (hp.bind.imp (fun j hj H' v s r => ?_) fun _ z => z)⟩
  cases r
  obtain ⟨h1, hj⟩ := hj.guard
  have h2 := inRange_ok h1
  have w := wj_range (K := X.K) (B := S ++ own) (H0 := H') (lo := 0) (hi := j)
  rw [Int.sub_zero] at w
  exact ⟨j, rfl, h2.1, h2.2, hj _ H' s w⟩
theorem i_range2 {c : Expr} {m : Res Int} {mc : Res Int} {p : Pos} (h : EG X W true ρ a m) (h2 : EG X W true ρ c mc) (hm : X.mg "range" = none) (hg : Gl X "range" := by rfl) (hs : starEach [a, c] X.env = [(false, eval a X.env), (false, eval c X.env)] := by rfl) (hs2 : starEach [c] X.env = [(false, eval c X.env)] := by rfl)
    (he : starEach (a :: [c]) X.env = (false, eval a X.env) :: starEach [c] X.env := by rfl) (he2 : starEach (c :: []) X.env = (false, eval c X.env) :: starEach [] X.env := by rfl) :
    IJ X W ρ tg (.Call (.Name "range" p) [a, c] [] pos) (m.bind fun i => mc.bind fun j => guardR (inRange i && inRange j) (.ok (rng i j))) := by
  obtain ⟨t, p, q⟩ := h.ex
  obtain ⟨tc, pc, qc⟩ := h2.ex
  refine ⟨_, pi_range2 hg hm (pa_cons p (pa_cons pc pa_nil he2) he) hs hs2, fun S own σ H R rs hp => q S own σ H _ rs (hp.bind.imp (fun i hi H1 v s r => qc S own σ H1 _ (rs.mono s) (hi.bind.imp (fun j hj H' u s2 r2 => ?_) fun _ z => z.mono s)) fun _ z => z)⟩
  cases r
  cases r2
  obtain ⟨h1, hj⟩ := hj.guard
  rw [Bool.and_eq_true] at h1
  have h3 := inRange_ok h1.1
  have h4 := inRange_ok h1.2
  exact ⟨i, j, rfl, ⟨h3.1, h3.2, h4.1, h4.2⟩, hj _ H' (s.trans s2) wj_range⟩
def enumL {α : Type} (xs : List α) : List (Int × α) := (List.range xs.length).zipWith (fun (i : Nat) x => ((i : Int), x)) xs
theorem enumL_length {α : Type} (xs : List α) : (enumL xs).length = xs.length := by unfold enumL; simp
theorem enumL_get {α : Type} {xs : List α} {i : Nat} {p : Int × α} (h : (enumL xs)[i]? = some p) : p.1 = (i : Int) ∧ xs[i]? = some p.2 := by
  unfold enumL at h
  rw [List.getElem?_zipWith] at h
  cases e : xs[i]? with
  | none => rw [e] at h; cases hh : (List.range xs.length)[i]? <;> rw [hh] at h <;> cases h
  | some x =>
    have hi : i < xs.length := (List.getElem?_eq_some_iff.mp e).1
    have e2 : (List.range xs.length)[i]? = some i := by simp [hi]
    rw [e, e2] at h
    cases h
    exact ⟨rfl, rfl⟩
theorem pair_new {K : PySem.W.Frag} {B2 : List Addr} {H : Hp} {Tt : Addr} {x y : V} {q : T × A} (hT : H Tt = none) (hd : ∀ b ∈ B2, H b ≠ none) (h1 : rp K (hide B2 H) x q.1) (h2 : rp K (hide B2 H) y q.2) :
    Same H (upd H Tt (.tup [x, y])) ∧ rp K (hide B2 (upd H Tt (.tup [x, y]))) (.ref Tt) q := by
  have s := same_upd (o := HO.tup [x, y]) hT
  refine ⟨s, Tt, [x, y], rfl, .inl (.inl ?_), .cons (Rp.mono (hide_same s) h1) (.cons (Rp.mono (hide_same s) h2) .nil)⟩
  rw [hide_out fun z => hd Tt z hT, upd_same]
theorem i_enum {m : Res (List T)} {p : Pos} {elts : List Expr} {kk : Nat} {tpos : Pos} (h : EG X W true ρ a m) (hm : X.mg "enumerate" = none) (hg : Gl X "enumerate" := by rfl) (hs : starEach [a] X.env = [(false, eval a X.env)] := by rfl) (he : starEach (a :: []) X.env = (false, eval a X.env) :: starEach [] X.env := by rfl) :
    IJ X W ρ (.Tuple elts kk tpos) (.Call (.Name "enumerate" p) [a] [] pos) (m.bind fun xs => .ok (enumL xs)) := by
  obtain ⟨t, p, q⟩ := h.ex
  refine ⟨_, pi_enum hg hm (pa_cons p pa_nil he) hs, fun S own σ H R rs hp => q S own σ H _ rs (hp.bind.imp (fun xs hx H' v s r => ?_) fun _ z => z)⟩
  obtain ⟨a, vs, rfl, e1, e2⟩ := r
  have there : ∀ H2, Same (hide (S ++ own) H') H2 → SqL X.K H2 a vs := fun H2 s2 => .inl (.inl (s2 _ _ e1))
  have wl := walk_enum (K := X.K) (a := a) (xs := vs)
  refine ⟨a, vs, rfl, .inl (.inl (hide_sub _ _ e1)), hx _ H' s ⟨fun i H2 hi s2 => wl.goes i H2 (by rw [e2.length, ← enumL_length]; exact hi) (there H2 s2), fun H2 s2 => ?_, fun i H2 v H3 x B2 ei s2 hd hy => ?_⟩⟩
  · have z : (enumL xs).length = vs.length := by rw [enumL_length, e2.length]
    rw [z]
    exact wl.stops H2 (there H2 s2)
  · obtain ⟨g1, g2⟩ := enumL_get ei
    have hi : i < vs.length := by rw [e2.length]; exact (List.getElem?_eq_some_iff.mp g2).1
    obtain ⟨Tt, x1, y1, rfl, hT, rfl, f1, f2⟩ := wl.yields i H2 v H3 hi (there _ (s2.trans hide_sub)) hy
    obtain ⟨v', e3, r3⟩ := e2.get g2
    have f2 : vs[i]? = some y1 := f2
    rw [e3] at f2
    cases f1
    cases f2
    exact pair_new hT hd (by show _ = V.int _; rw [g1]) (Rp.mono s2 r3)
theorem i_zip {c : Expr} {m : Res (List T)} {mc : Res (List A)} {p : Pos} {elts : List Expr} {kk : Nat} {tpos : Pos} (h : EG X W true ρ a m) (h2 : EG X W true ρ c mc) (hm : X.mg "zip" = none) (hg : Gl X "zip" := by rfl)
    (he : starEach (a :: [c]) X.env = (false, eval a X.env) :: starEach [c] X.env := by rfl) (he2 : starEach (c :: []) X.env = (false, eval c X.env) :: starEach [] X.env := by rfl) (hpl : (backTo pos (starEach [c] X.env)).any (·.1) = false := by rfl) :
    IJ X W ρ (.Tuple elts kk tpos) (.Call (.Name "zip" p) [a, c] [] pos) (m.bind fun xs => mc.bind fun ys => .ok (xs.zip ys)) := by
  obtain ⟨t, p, q⟩ := h.ex
  obtain ⟨tc, pc, qc⟩ := h2.ex
  refine ⟨_, pi_zip hg hm (pa_cons p (pa_cons pc pa_nil he2) he) he hpl, fun S own σ H R rs hp => q S own σ H _ rs (hp.bind.imp (fun xs hx H1 v s1 r => qc S own σ H1 _ (rs.mono s1) (hx.bind.imp (fun ys hy H' u s2 r2 => ?_) fun _ z => z.mono s1)) fun _ z => z)⟩
  obtain ⟨a, vs, rfl, e1, e2⟩ := r
  obtain ⟨b, us, rfl, e3, e4⟩ := r2
  have e1 := hide_same s2 _ _ e1
  have e2 := RpAll.mono (hide_same s2) e2
  have s := s1.trans s2
  have there : ∀ H2, Same (hide (S ++ own) H') H2 → SqL X.K H2 a vs ∧ SqL X.K H2 b us := fun H2 s2 => ⟨.inl (.inl (s2 _ _ e1)), .inl (.inl (s2 _ _ e3))⟩
  have wl := walk_zip (K := X.K) (a := a) (b := b) (xs := vs) (ys := us) rfl
  have hlen : (xs.zip ys).length = min vs.length us.length := by rw [List.length_zip, e2.length, e4.length]
  refine ⟨a, b, vs, us, rfl, .inl (.inl (hide_sub _ _ e1)), .inl (.inl (hide_sub _ _ e3)), hy _ H' s ⟨fun i H2 hi s2 => wl.goes i H2 (by rw [← hlen]; exact hi) (there H2 s2), fun H2 s2 => ?_, fun i H2 v H3 x B2 ei s2 hd hyy => ?_⟩⟩
  · rw [hlen]
    exact wl.stops H2 (there H2 s2)
  · have hi : i < min vs.length us.length := by rw [← hlen]; exact (List.getElem?_eq_some_iff.mp ei).1
    obtain ⟨Tt, x1, y1, rfl, hT, rfl, f1, f2⟩ := wl.yields i H2 v H3 hi (there _ (s2.trans hide_sub)) hyy
    rw [List.getElem?_zip_eq_some] at ei
    obtain ⟨v', e5, r5⟩ := e2.get ei.1
    obtain ⟨u', e6, r6⟩ := e4.get ei.2
    have f1 : vs[i]? = some x1 := f1
    have f2 : us[i]? = some y1 := f2
    rw [e5] at f1
    rw [e6] at f2
    cases f1
    cases f2
    exact pair_new hT hd (Rp.mono s2 r5) (Rp.mono s2 r6)
def signs (z : Str) : List Str := z.cps.toList.map fun c => ⟨#[c]⟩
theorem i_str {m : Res Str} (h : EG X W true ρ e m) : IJ X W ρ tg e (m.bind fun z => .ok (signs z)) := by
  obtain ⟨t, p, q⟩ := h.ex
  refine ⟨_, pi_str p, fun S own σ H R rs hp => q S own σ H _ rs (hp.bind.imp (fun z hx H' v s r => ?_) fun _ z => z)⟩
  cases r
  have hl : (signs z).length = z.cps.size := by unfold signs; rw [List.length_map, Array.length_toList]
  refine ⟨z, rfl, hx _ H' s ⟨fun i H2 hi _ => ?_, fun H2 _ => ?_, fun i H2 v H3 x B2 ei _ _ hy => ?_⟩⟩
  · show i < z.cps.size
    rw [← hl]; exact hi
  · show z.cps.size ≤ _
    rw [hl]; exact Nat.le_refl _
  · obtain ⟨rfl, c, e1, rfl⟩ := hy
    refine ⟨Same.refl _, ?_⟩
    unfold signs at ei
    rw [List.getElem?_map, Array.getElem?_toList, e1] at ei
    cases ei
    rfl
theorem IJ.of_eq {m m' : Res (List T)} (h : IJ X W ρ tg e m) (z : m = m') : IJ X W ρ tg e m' := z ▸ h

/-! ### for -/
theorem n_for {body : List Stmt} {m : Res (List T)} {u : List Slot → T → List Slot} {ρl : S₁ → List Slot} {f : S₁ → T → Res S₁} {s0 : S₁} {js : List Nat} (C : CtxOk X W lv) (hi : IJ X W ρ tg e m) (hg : GJ X tg u js) (h0 : Wk ρ (ρl s0)) (hb : ∀ s x, SN X W ρe (u (ρl s) x) body ρl (f s x)) (w : WkO ρ ρe := by first | exact True.intro | (repeat (first | exact Wk.nil | refine Wk.s ?_ | refine Wk.n ?_)))
    (hs : ∀ x, foldedSetIterable e X.env x = pure x := by intro _; rfl) : N1 X W ρe ρ (.For tg e body [] pos) ρl (m.bind fun xs => forR f xs s0) := by
  obtain ⟨wi, pi, qi⟩ := hi.ex
  obtain ⟨gt, pg, qg⟩ := hg.ex
  have hx : ∃ tb : TS, PSs X body tb ∧ ∀ s x, SNp X W ρe (u (ρl s) x) tb ρl (f s x) := by
    refine ⟨fun D σ H => ∃ s x, (∃ tb, PSs X body tb ∧ SNp X W ρe (u (ρl s) x) tb ρl (f s x)) ∧ ∃ S own, RS X.K S (u (ρl s) x) σ H own ∧ Post (f s x) (NxP X.K S own H D.nx ρl) (ErrS X.K W S own H ρe), ⟨fun pins s σ H D I h => ?_⟩, fun s x S own σ H D rs h => ⟨s, x, (hb s x).ex, S, own, rs, h⟩⟩
    obtain ⟨s, x, ⟨tb, p, q⟩, S, own, rs, h⟩ := h
    exact p.run pins _ σ H D I (q S own σ H D rs h)
  obtain ⟨tb, pb, qb⟩ := hx
  refine ⟨_, ps_for C.po C.calm pi pg pb hs, fun S own σ H D rs h => qi S own σ H _ rs (h.bind.imp (fun xs hx J H1 s1 wj => ?_) fun _ z => z.toX rs w)⟩
  refine ⟨fun i k σ' H' => i + k = xs.length ∧ ∃ s own', Ext own H1 own' H' ∧ RS X.K S (ρl s) σ' H' own' ∧ Post (forR f (xs.drop i) s) (NxP X.K S own H D.nx ρl) (ErrS X.K W S own H ρe), ⟨xs.length, Nat.zero_add _, s0, own, Ext.refl, (rs.mono s1).wk h0, hx⟩, fun i k σ' H' hW => ?_⟩
  obtain ⟨ek, s, own', x1, rs', hp⟩ := hW
  have sight : Same (hide (S ++ own) H1) (hide (S ++ own') H') := x1.sight fun _ _ _ => trivial
  by_cases hi : i < xs.length
  · refine .inr ⟨wj.goes i H' hi (sight.trans hide_sub), fun σ2 H2 => ∃ s' own2, Ext own H1 own2 H2 ∧ RS X.K S (ρl s') σ2 H2 own2 ∧ Post (forR f (xs.drop (i + 1)) s') (NxP X.K S own H D.nx ρl) (ErrS X.K W S own H ρe), fun σ2 H2 hN => ?_, fun v H2 hy => ?_⟩
    · obtain ⟨s', own2, q1, q2, q3⟩ := hN
      exact ⟨k - 1, by omega, by omega, s', own2, q1, q2, q3⟩
    · obtain ⟨s2, r2⟩ := wj.yields i H' v H2 xs[i] (S ++ own') (List.getElem?_eq_getElem hi) sight rs'.dom hy
      refine qg S own' (ρl s) σ' H2 v xs[i] _ (rs'.mono s2) r2 fun σ3 rs3 _ => ?_
      refine qb s xs[i] S own' σ3 H2 _ rs3 ?_
      rw [List.drop_eq_getElem_cons hi] at hp
      have x2 : Ext own H own' H2 := (Ext.of_same s1).trans (x1.trans (Ext.of_same s2))
      refine (show Post ((f s xs[i]).bind fun s' => forR f (xs.drop (i + 1)) s') _ _ from hp).bind.imp (fun s' hs' σ4 H4 own4 x4 rs4 => ⟨s', own4, x1.trans ((Ext.of_same s2).trans x4), rs4, hs'⟩) fun ex z => z.mono x2
  · refine .inl ⟨?_, ?_⟩
    · have e1 : i = xs.length := by omega
      rw [e1]
      exact wj.stops H' (sight.trans hide_sub)
    · rw [List.drop_eq_nil_of_le (by omega)] at hp
      exact hp σ' H' own' ((Ext.of_same s1).trans x1) rs'
theorem c_for {body : List Stmt} {m : Res (List T)} {u : List Slot → T → List Slot} {ρl : S₁ → List Slot} {f : S₁ → T → Res (Ctl S₁ S₁ R)} {s0 : S₁} {js : List Nat} (C : CtxOk X W lv) (hi : IJ X W ρ tg e m) (hg : GJ X tg u js) (h0 : Wk ρ (ρl s0)) (hb : ∀ s x, SC X W ρe (u (ρl s) x) body ρl ρl Z (f s x)) (w : WkO ρ ρe := by first | exact True.intro | (repeat (first | exact Wk.nil | refine Wk.s ?_ | refine Wk.n ?_)))
    (hs : ∀ x, foldedSetIterable e X.env x = pure x := by intro _; rfl) : C1 X W ρe ρ (.For tg e body [] pos) ρl b Z (m.bind fun xs => forC f xs s0) := by
  obtain ⟨wi, pi, qi⟩ := hi.ex
  obtain ⟨gt, pg, qg⟩ := hg.ex
  have hx : ∃ tb : TS, PSs X body tb ∧ ∀ s x, SCp X W ρe (u (ρl s) x) tb ρl ρl Z (f s x) := by
    refine ⟨fun D σ H => ∃ s x, (∃ tb, PSs X body tb ∧ SCp X W ρe (u (ρl s) x) tb ρl ρl Z (f s x)) ∧ ∃ S own, RS X.K S (u (ρl s) x) σ H own ∧ Post (f s x) (CtlP X.K S own H D ρl ρl Z) (ErrS X.K W S own H ρe), ⟨fun pins s σ H D I h => ?_⟩, fun s x S own σ H D rs h => ⟨s, x, (hb s x).ex, S, own, rs, h⟩⟩
    obtain ⟨s, x, ⟨tb, p, q⟩, S, own, rs, h⟩ := h
    exact p.run pins _ σ H D I (q S own σ H D rs h)
  obtain ⟨tb, pb, qb⟩ := hx
  refine ⟨_, ps_for C.po C.calm pi pg pb hs, fun S own σ H D rs h => qi S own σ H _ rs (h.bind.imp (fun xs hx J H1 s1 wj => ?_) fun _ z => z.toX rs w)⟩
  refine ⟨fun i k σ' H' => i + k = xs.length ∧ ∃ s own', Ext own H1 own' H' ∧ RS X.K S (ρl s) σ' H' own' ∧ Post (forC f (xs.drop i) s) (CtlP X.K S own H D ρl b Z) (ErrS X.K W S own H ρe), ⟨xs.length, Nat.zero_add _, s0, own, Ext.refl, (rs.mono s1).wk h0, hx⟩, fun i k σ' H' hW => ?_⟩
  obtain ⟨ek, s, own', x1, rs', hp⟩ := hW
  have sight : Same (hide (S ++ own) H1) (hide (S ++ own') H') := x1.sight fun _ _ _ => trivial
  by_cases hi : i < xs.length
  · refine .inr ⟨wj.goes i H' hi (sight.trans hide_sub), fun σ2 H2 => ∃ s' own2, Ext own H1 own2 H2 ∧ RS X.K S (ρl s') σ2 H2 own2 ∧ Post (forC f (xs.drop (i + 1)) s') (CtlP X.K S own H D ρl b Z) (ErrS X.K W S own H ρe), fun σ2 H2 hN => ?_, fun v H2 hy => ?_⟩
    · obtain ⟨s', own2, q1, q2, q3⟩ := hN
      exact ⟨k - 1, by omega, by omega, s', own2, q1, q2, q3⟩
    · obtain ⟨s2, r2⟩ := wj.yields i H' v H2 xs[i] (S ++ own') (List.getElem?_eq_getElem hi) sight rs'.dom hy
      refine qg S own' (ρl s) σ' H2 v xs[i] _ (rs'.mono s2) r2 fun σ3 rs3 _ => ?_
      refine qb s xs[i] S own' σ3 H2 _ rs3 ?_
      rw [List.drop_eq_getElem_cons hi] at hp
      have x2 : Ext own H own' H2 := (Ext.of_same s1).trans (x1.trans (Ext.of_same s2))
      refine (show Post ((f s xs[i]).bind _) _ _ from hp).bind.imp (fun z hz => ?_) fun ex z => z.mono x2
      cases z with
      | nx s' => exact fun σ4 H4 own4 x4 rs4 => ⟨s', own4, x1.trans ((Ext.of_same s2).trans x4), rs4, hz⟩
      | ct s' => exact fun σ4 H4 own4 x4 rs4 => ⟨s', own4, x1.trans ((Ext.of_same s2).trans x4), rs4, hz⟩
      | bk s' => exact NxP.mono (show NxP X.K S own H D.nx ρl s' from hz) x2
      | rt r => exact RtP.mono (show RtP X.K S own H D.rt Z r from hz) x2
  · refine .inl ⟨?_, ?_⟩
    · have e1 : i = xs.length := by omega
      rw [e1]
      exact wj.stops H' (sight.trans hide_sub)
    · rw [List.drop_eq_nil_of_le (by omega)] at hp
      exact hp σ' H' own' ((Ext.of_same s1).trans x1) rs'
end
end Py

set_option Elab.async false
set_option linter.all false
set_option maxRecDepth 100000
set_option maxHeartbeats 1000000
/-! Py, part F: while, comprehensions, calls of defs, defs, isinstance, is. -/
namespace Py
open PySem PySem.Spec L2
open Rp (rp)

mutual
theorem dp_same {K : PySem.W.Frag} {H H' : Hp} (s : Same H H') : ∀ {v : V} {d : PyData}, Dp K H v d → Dp K H' v d
  | _, _, .non => .non
  | _, _, .bl b => .bl b
  | _, _, .int i => .int i
  | _, _, .str x => .str x
  | _, _, .lst h r => .lst (s.seq h) (dpAll_same s r)
  | _, _, .tup h r => .tup (SqT.same s h) (dpAll_same s r)
theorem dpAll_same {K : PySem.W.Frag} {H H' : Hp} (s : Same H H') : ∀ {vs : List V} {ds : List PyData}, DpAll K H vs ds → DpAll K H' vs ds
  | _, _, .nil => .nil
  | _, _, .cons h r => .cons (dp_same s h) (dpAll_same s r)
end
section
variable {S₁ S₂ B R T A U : Type} [Rp T] [Rp A] [Rp U] {X : Cx} {W : WX} {g : Bool} {ρe : Option (List Slot)} {ρ ρ' : List Slot} {st : Stmt} {rest sts : List Stmt} {n n1 : S₁ → List Slot} {n2 : S₂ → List Slot} {b : B → List Slot} {Z : Rt R} {e a tg : Expr} {pos : Pos} {lv : Nat}

/-! ### while -/
theorem n_while {c : Expr} {body : List Stmt} {ρl : S₁ → List Slot} {mc : S₁ → Res Bool} {f : S₁ → Res S₁} {s0 : S₁} (N : Nat) (C : CtxOk X W lv) (hc : ∀ s, TJ X W (ρl s) c (mc s)) (h0 : Wk ρ (ρl s0)) (hb : ∀ s, SN X W ρe (ρl s) body ρl (f s)) (w : ∀ s, WkO (ρl s) ρe := by intro _; trivial) :
    N1 X W ρe ρ (.While c body [] pos) ρl (whileM mc f N s0) := by
  have hx : ∃ tb : TS, PSs X body tb ∧ ∀ s, SNp X W ρe (ρl s) tb ρl (f s) := by
    refine ⟨fun D σ H => ∃ s, (∃ tb, PSs X body tb ∧ SNp X W ρe (ρl s) tb ρl (f s)) ∧ ∃ S own, RS X.K S (ρl s) σ H own ∧ Post (f s) (NxP X.K S own H D.nx ρl) (ErrS X.K W S own H ρe), ⟨fun pins s σ H D I h => ?_⟩, fun s S own σ H D rs h => ⟨s, (hb s).ex, S, own, rs, h⟩⟩
    obtain ⟨s, ⟨tb, p, q⟩, S, own, rs, h⟩ := h
    exact p.run pins _ σ H D I (q S own σ H D rs h)
  have hy : ∃ tc : TT, PT X c tc ∧ ∀ s, TJp X W (ρl s) tc (mc s) := by
    refine ⟨fun σ H Q => ∃ s, (∃ tc, PT X c tc ∧ TJp X W (ρl s) tc (mc s)) ∧ ∃ S own, RS X.K S (ρl s) σ H own ∧ Post (mc s) (fun b => ∀ H', Same H H' → Q b H') (ErrX X W S own σ H), ⟨fun pins s σ H Q I h => ?_⟩, fun s S own σ H Q rs h => ⟨s, (hc s).ex, S, own, rs, h⟩⟩
    obtain ⟨s, ⟨tc, p, q⟩, S, own, rs, h⟩ := h
    exact p.run pins _ σ H Q I (q S own σ H Q rs h)
  obtain ⟨tb, pb, qb⟩ := hx
  obtain ⟨tc, pc, qc⟩ := hy
  refine ⟨_, ps_while C.po pc pb, fun S own σ H D rs h => ?_⟩
  refine ⟨fun k σ' H' => ∃ s own', Ext own H own' H' ∧ RS X.K S (ρl s) σ' H' own' ∧ Post (whileM mc f k s) (NxP X.K S own H D.nx ρl) (ErrS X.K W S own H ρe), ⟨N, s0, own, Ext.refl, rs.wk h0, h⟩, fun k σ' H' hW => ?_⟩
  obtain ⟨s, own', x1, rs', hp⟩ := hW
  cases k with
  | zero => exact hp.elim
  | succ k =>
    refine qc s S own' σ' H' _ rs' ((show Post ((mc s).bind _) _ _ from hp).bind.imp (fun b hb H2 s2 => ?_) fun _ z => (z.mono x1).toX rs' (w s))
    have x2 := x1.trans (Ext.of_same (as := own') s2)
    cases b with
    | true =>
      rw [if_pos rfl]
      refine ⟨fun σ3 H3 => ∃ s' own3, Ext own H own3 H3 ∧ RS X.K S (ρl s') σ3 H3 own3 ∧ Post (whileM mc f k s') (NxP X.K S own H D.nx ρl) (ErrS X.K W S own H ρe), fun σ3 H3 hN => ⟨k, Nat.lt_succ_self _, hN⟩, ?_⟩
      exact qb s S own' σ' H2 _ (rs'.mono s2) ((show Post ((f s).bind _) _ _ from hb).bind.imp (fun s' hs' σ4 H4 own4 x4 rs4 => ⟨s', own4, x2.trans x4, rs4, hs'⟩) fun _ z => z.mono x2)
    | false =>
      rw [if_neg Bool.false_ne_true]
      exact (show NxP X.K S own H D.nx ρl s from hb) σ' H2 own' x2 (rs'.mono s2)
theorem c_while {c : Expr} {body : List Stmt} {ρl : S₁ → List Slot} {mc : S₁ → Res Bool} {f : S₁ → Res (Ctl S₁ S₁ R)} {s0 : S₁} (N : Nat) (C : CtxOk X W lv) (hc : ∀ s, TJ X W (ρl s) c (mc s)) (h0 : Wk ρ (ρl s0)) (hb : ∀ s, SC X W ρe (ρl s) body ρl ρl Z (f s)) (w : ∀ s, WkO (ρl s) ρe := by intro _; trivial) :
    C1 X W ρe ρ (.While c body [] pos) ρl b Z (whileC mc f N s0) := by
  have hx : ∃ tb : TS, PSs X body tb ∧ ∀ s, SCp X W ρe (ρl s) tb ρl ρl Z (f s) := by
    refine ⟨fun D σ H => ∃ s, (∃ tb, PSs X body tb ∧ SCp X W ρe (ρl s) tb ρl ρl Z (f s)) ∧ ∃ S own, RS X.K S (ρl s) σ H own ∧ Post (f s) (CtlP X.K S own H D ρl ρl Z) (ErrS X.K W S own H ρe), ⟨fun pins s σ H D I h => ?_⟩, fun s S own σ H D rs h => ⟨s, (hb s).ex, S, own, rs, h⟩⟩
    obtain ⟨s, ⟨tb, p, q⟩, S, own, rs, h⟩ := h
    exact p.run pins _ σ H D I (q S own σ H D rs h)
  have hy : ∃ tc : TT, PT X c tc ∧ ∀ s, TJp X W (ρl s) tc (mc s) := by
    refine ⟨fun σ H Q => ∃ s, (∃ tc, PT X c tc ∧ TJp X W (ρl s) tc (mc s)) ∧ ∃ S own, RS X.K S (ρl s) σ H own ∧ Post (mc s) (fun b => ∀ H', Same H H' → Q b H') (ErrX X W S own σ H), ⟨fun pins s σ H Q I h => ?_⟩, fun s S own σ H Q rs h => ⟨s, (hc s).ex, S, own, rs, h⟩⟩
    obtain ⟨s, ⟨tc, p, q⟩, S, own, rs, h⟩ := h
    exact p.run pins _ σ H Q I (q S own σ H Q rs h)
  obtain ⟨tb, pb, qb⟩ := hx
  obtain ⟨tc, pc, qc⟩ := hy
  refine ⟨_, ps_while C.po pc pb, fun S own σ H D rs h => ?_⟩
  refine ⟨fun k σ' H' => ∃ s own', Ext own H own' H' ∧ RS X.K S (ρl s) σ' H' own' ∧ Post (whileC mc f k s) (CtlP X.K S own H D ρl b Z) (ErrS X.K W S own H ρe), ⟨N, s0, own, Ext.refl, rs.wk h0, h⟩, fun k σ' H' hW => ?_⟩
  obtain ⟨s, own', x1, rs', hp⟩ := hW
  cases k with
  | zero => exact hp.elim
  | succ k =>
    refine qc s S own' σ' H' _ rs' ((show Post ((mc s).bind _) _ _ from hp).bind.imp (fun b hb H2 s2 => ?_) fun _ z => (z.mono x1).toX rs' (w s))
    have x2 := x1.trans (Ext.of_same (as := own') s2)
    cases b with
    | true =>
      rw [if_pos rfl]
      refine ⟨fun σ3 H3 => ∃ s' own3, Ext own H own3 H3 ∧ RS X.K S (ρl s') σ3 H3 own3 ∧ Post (whileC mc f k s') (CtlP X.K S own H D ρl _ Z) (ErrS X.K W S own H ρe), fun σ3 H3 hN => ⟨k, Nat.lt_succ_self _, hN⟩, ?_⟩
      refine qb s S own' σ' H2 _ (rs'.mono s2) ((show Post ((f s).bind _) _ _ from hb).bind.imp (fun z hz => ?_) fun _ z => z.mono x2)
      cases z with
      | nx s' => exact fun σ4 H4 own4 x4 rs4 => ⟨s', own4, x2.trans x4, rs4, hz⟩
      | ct s' => exact fun σ4 H4 own4 x4 rs4 => ⟨s', own4, x2.trans x4, rs4, hz⟩
      | bk s' => exact NxP.mono (show NxP X.K S own H D.nx ρl s' from hz) x2
      | rt r => exact RtP.mono (show RtP X.K S own H D.rt Z r from hz) x2
    | false =>
      rw [if_neg Bool.false_ne_true]
      exact (show NxP X.K S own H D.nx ρl s from hb) σ' H2 own' x2 (rs'.mono s2)

/-! ### comprehensions -/
abbrev WF : WX := fun _ _ _ _ => False
def lcX {T U : Type} (t : T → Res Bool) (f : T → Res U) (xs : List T) : Res (List U) := guardR (decide (xs.length ≤ sizeLine)) (lcM t f xs)
def wipeS (ρ : List Slot) : List Nat → List Slot
  | [] => ρ
  | v :: vs => (wipeS ρ vs).set v .non
theorem Rs.forget {K : PySem.W.Frag} {Hs H : Hp} {o : Option V} {σ : St} {ads : List Addr} (r : Rs K Hs H ρ σ ads) : ∀ i : Nat, ∃ ads', Rs K Hs H (ρ.set i .non) (σ.set i o) ads' ∧ ads'.Sublist ads := by
  induction r with
  | nil => intro i; exact ⟨[], .nil, List.Sublist.refl _⟩
  | non r ih =>
    intro i
    cases i with
    | zero => exact ⟨_, .non r, List.Sublist.refl _⟩
    | succ i => obtain ⟨a, q1, q2⟩ := ih i; exact ⟨a, .non q1, q2⟩
  | val h1 r ih =>
    intro i
    cases i with
    | zero => exact ⟨_, .non r, List.Sublist.refl _⟩
    | succ i => obtain ⟨a, q1, q2⟩ := ih i; exact ⟨a, .val h1 q1, q2⟩
  | own h0 h1 h2 r ih =>
    intro i
    cases i with
    | zero => exact ⟨_, .non r, List.sublist_cons_self _ _⟩
    | succ i => obtain ⟨a, q1, q2⟩ := ih i; exact ⟨_, .own h0 h1 h2 q1, q2.cons₂ _⟩
theorem RS.forget {K : PySem.W.Frag} {S own : List Addr} {σ : St} {H : Hp} (r : RS K S ρ σ H own) (i : Nat) (o : Option V) : RS K S (ρ.set i .non) (σ.set i o) H own := by
  obtain ⟨⟨ads, h1, h2, h3⟩, h4, h5⟩ := r
  obtain ⟨ads', q1, q2⟩ := h1.forget (o := o) i
  exact ⟨⟨ads', q1, h2.sublist q2, fun a ha => h3 a (q2.subset ha)⟩, h4, h5⟩
theorem RS.wipe {K : PySem.W.Frag} {S own : List Addr} {σ : St} {H : Hp} (r : RS K S ρ σ H own) : ∀ vs : List Nat, RS K S (wipeS ρ vs) (wipe σ vs) H own
  | [] => r
  | v :: vs => (RS.wipe r vs).forget v none
theorem wipe_wipe (σ : St) : ∀ vs ws : List Nat, (∀ i ∈ vs, i ∈ ws) → L2.wipe (L2.wipe σ vs) ws = L2.wipe σ ws
  | [], _, _ => rfl
  | v :: vs, ws, h => by
    show L2.wipe ((L2.wipe σ vs).set v none) ws = _
    rw [wipe_set (h v List.mem_cons_self)]
    exact wipe_wipe σ vs ws fun i hi => h i (List.mem_cons_of_mem _ hi)
theorem RS.hideNew {K : PySem.W.Frag} {S own : List Addr} {σ : St} {H H' : Hp} {D : Addr} {o : HO} (rs : RS K S ρ σ H own) (s : Same H H') (na : H D = none) (e : H' D = some o) : RS K S ρ σ H' (D :: own) := by
  obtain ⟨⟨ads, h1, h2, h3⟩, h4, h5⟩ := rs
  refine ⟨⟨ads, h1.mono (same_hide_new s na) fun b _ o q => s b o q, h2, fun b hb => List.mem_cons_of_mem _ (h3 b hb)⟩, fun b hb => ?_, fun b hb => ?_⟩
  · rcases List.mem_cons.mp hb with z | z
    · exact z ▸ fun q => h5 D (List.mem_append_left _ q) na
    · exact h4 b z
  · rcases List.mem_append.mp hb with z | z
    · exact dom_same s (h5 b (List.mem_append_left _ z))
    · rcases List.mem_cons.mp z with z | z
      · rw [z, e]; intro q; cases q
      · exact dom_same s (h5 b (List.mem_append_right _ z))
structure LcPart (X : Cx) (scope : Scope) (ρw : List Slot) (tg elt : Expr) (ifs : List Expr) {T U : Type} [Rp T] [Rp U] (u : List Slot → T → List Slot) (js : List Nat) (t : T → Res Bool) (f : T → Res U) (s : Shared) (H : Hp) (C : Addr) (cl : List (Str × Addr)) (fp : List Addr) : Prop where
  tg : GJ (X.blk s H scope (compEnvC scope cl C X.env) fp) tg u js
  ts : ∀ x, ∃ tt, PTs (X.blk s H scope (compEnvC scope cl C X.env) fp) ifs tt ∧ TJp (X.blk s H scope (compEnvC scope cl C X.env) fp) WF (u ρw x) tt (t x)
  el : ∀ x, EG (X.blk s H scope (compEnvC scope cl C X.env) fp) WF true (u ρw x) elt (f x)
theorem lc_none {ρ : List Slot} {Y : Cx} : ∃ tt, PTs Y [] tt ∧ TJp Y WF ρ tt (.ok true) := ⟨_, pts_nil, fun S own σ H Q rs h => h H (Same.refl H)⟩
theorem lc_one {ρ : List Slot} {Y : Cx} {c : Expr} {m : Res Bool} (h : TJ Y WF ρ c m) : ∃ tt, PTs Y [c] tt ∧ TJp Y WF ρ tt m := by
  obtain ⟨t, p, q⟩ := h.ex
  exact ⟨_, pts_one p, q⟩
theorem quiet_no {α : Type} {m : Res α} {ex : Ex} : m.quiet ≠ .err ex := by cases m <;> intro h <;> cases h
theorem lcM_no {α β : Type} {t : α → Res Bool} {f : α → Res β} {xs : List α} {ex : Ex} : lcM t f xs ≠ .err ex := by
  induction xs with
  | nil => intro h; cases h
  | cons x r ih =>
    unfold lcM
    cases e1 : (t x).quiet with
    | bad => intro h; cases h
    | err z => exact absurd e1 quiet_no
    | ok b =>
      cases b with
      | false => exact ih
      | true =>
        show ((f x).quiet.bind _) ≠ _
        cases e2 : (f x).quiet with
        | bad => intro h; cases h
        | err z => exact absurd e2 quiet_no
        | ok y =>
          show ((lcM t f r).bind _) ≠ _
          cases e3 : lcM t f r with
          | bad => intro h; cases h
          | err z =>
            intro h
            cases h
            exact ih e3
          | ok ys => intro h; cases h
/-- the reading of a comprehension -/
theorem lc_read {K : PySem.W.Frag} {vs : List Nat} {ρw : List Slot} {u : List Slot → T → List Slot} {js : List Nat} {t : T → Res Bool} {f : T → Res U} {gt : TG} {tt : TT} {te : TE} {xs : List T} {J : It} {S own : List Addr} {σ : St} {H1 : Hp} {Q : VK}
    (hj : ∀ i ∈ js, i ∈ vs) (rs : RS K S ρ σ H1 own) (hw : ρw = wipeS ρ vs) (wj : WJ K (S ++ own) H1 J xs)
    (hg : ∀ (S own : List Addr) (ρ : List Slot) (σ : St) (H : Hp) (v : V) (x : T) (Q : St → Hp → Prop), RS K S ρ σ H own → rp K (hide (S ++ own) H) v x → (∀ σ', RS K S (u ρ x) σ' H own → (∀ vs : List Nat, (∀ i ∈ js, i ∈ vs) → wipe σ' vs = wipe σ vs) → Q σ' H) → gt v σ H Q)
    (ht : ∀ (x : T) (S own : List Addr) (σ : St) (H : Hp) (Q : Bool → Hp → Prop), RS K S (u ρw x) σ H own → Post (t x).quiet (fun b => ∀ H', Same H H' → Q b H') (fun _ => True) → tt σ H Q)
    (he : ∀ (x : T) (S own : List Addr) (σ : St) (H : Hp) (Q : VK), RS K S (u ρw x) σ H own → Post (f x).quiet (fun y => ∀ H' v, Same H H' → rp K (hide (S ++ own) H') v y → Q v H') (fun _ => True) → te σ H Q)
    (hp : Post (lcX t f xs) (fun ys => ∀ H' a vs, Same H1 H' → H1 a = none → H' a = some (.lst vs) → RpAll K (hide (a :: (S ++ own)) H') vs ys → Q (.ref a) H') (fun _ => True)) :
    ∀ D, H1 D = none → ∃ W : Nat → Nat → Hp → Prop, (∃ m, W 0 m (upd H1 D (.lst []))) ∧ ∀ i m H, W i m H →
      (J.stop i H ∧ Q (.ref D) H) ∨ (J.go i H ∧ ∃ Nx : Hp → Prop, (∀ H', Nx H' → ∃ m', m' < m ∧ W (i + 1) m' H') ∧ ∀ x H', J.yld i H x H' → gt x (wipe σ vs) H' fun σ2 H2 => wipe σ2 vs = wipe σ vs ∧ tt σ2 H2 fun b H3 =>
        if b = true then te σ2 H3 fun y H4 => ∃ acc, H4 D = some (.lst acc) ∧ acc.length < sizeLine ∧ Nx (upd H4 D (.lst (acc ++ [y]))) else Nx H3) := by
  intro D nD
  obtain ⟨hz, hp⟩ := hp.guard
  have hz : xs.length ≤ sizeLine := of_decide_eq_true hz
  let I : Nat → Hp → Prop := fun i H' => ∃ acc ys, Same H1 H' ∧ H' D = some (.lst acc) ∧ acc.length ≤ i ∧ RpAll K (hide (S ++ D :: own) H') acc ys ∧
    Post (lcM t f (xs.drop i)) (fun zs => ∀ H' a vs, Same H1 H' → H1 a = none → H' a = some (.lst vs) → RpAll K (hide (a :: (S ++ own)) H') vs (ys ++ zs) → Q (.ref a) H') (fun _ => True)
  refine ⟨fun i m H' => i + m = xs.length ∧ I i H', ⟨xs.length, Nat.zero_add _, [], [], same_upd nD, upd_same, Nat.zero_le _, .nil, hp⟩, fun i m H' hW => ?_⟩
  obtain ⟨em, acc, ys, sm, eD, la, ra, hq⟩ := hW
  have rsD : RS K S ρ σ H' (D :: own) := rs.hideNew sm nD eD
  have sight : Same (hide (S ++ own) H1) (hide (S ++ D :: own) H') := same_hide_new sm nD
  by_cases hi : i < xs.length
  · refine .inr ⟨wj.goes i H' hi (sight.trans hide_sub), I (i + 1), fun H2 hN => ⟨m - 1, by omega, by omega, hN⟩, fun v H2 hy => ?_⟩
    obtain ⟨s2, r2⟩ := wj.yields i H' v H2 xs[i] (S ++ D :: own) (List.getElem?_eq_getElem hi) sight rsD.dom hy
    have rs2 := rsD.mono s2
    rw [List.drop_eq_getElem_cons hi] at hq
    refine hg S (D :: own) ρw (wipe σ vs) H2 v xs[i] _ (hw ▸ rs2.wipe vs) r2 fun σ3 rs3 tz => ⟨(tz vs hj).trans (wipe_wipe σ vs vs fun _ h => h), ?_⟩
    refine ht xs[i] S (D :: own) σ3 H2 _ rs3 ((show Post ((t xs[i]).quiet.bind _) _ _ from hq).bind.imp (fun b hb H3 s3 => ?_) fun _ z => z)
    have s23 := s2.trans s3
    cases b with
    | false =>
      rw [if_neg Bool.false_ne_true]
      exact ⟨acc, ys, sm.trans s23, s23 _ _ eD, by omega, RpAll.mono (hide_same s23) ra, hb⟩
    | true =>
      rw [if_pos rfl]
      refine he xs[i] S (D :: own) σ3 H3 _ (rs3.mono s3) ((show Post ((f xs[i]).quiet.bind _) _ _ from hb).bind.imp (fun y hy H4 w s4 r4 => ?_) fun _ z => z)
      have s24 := s23.trans s4
      have hin : D ∈ S ++ D :: own := List.mem_append_right _ List.mem_cons_self
      refine ⟨acc, s24 _ _ eD, by omega, acc ++ [w], ys ++ [y], fun b o eb => ?_, upd_same, by rw [List.length_append]; exact Nat.succ_le_succ la, ?_, ?_⟩
      · rw [upd_ne (ne_of_none eb nD)]
        exact (sm.trans s24) b o eb
      · rw [hide_upd_in hin]
        exact (RpAll.mono (hide_same s24) ra).append (.cons r4 .nil)
      · refine (show Post ((lcM t f (xs.drop (i + 1))).bind fun ys => .ok (y :: ys)) _ _ from hy).bind.imp (fun zs hzs H5 a vs5 s5 na e5 r5 => ?_) fun _ z => z
        rw [List.append_assoc] at r5
        exact hzs H5 a vs5 s5 na e5 r5
  · refine .inl ⟨?_, ?_⟩
    · have e1 : i = xs.length := by omega
      rw [e1]
      exact wj.stops H' (sight.trans hide_sub)
    · rw [List.drop_eq_nil_of_le (by omega)] at hq
      refine (show ∀ H' a vs, _ from hq) H' D acc sm nD eD ?_
      rw [List.append_nil]
      refine RpAll.mono (hide_mono fun b hb => ?_) ra
      rcases List.mem_cons.mp hb with z | z
      · exact z ▸ List.mem_append_right _ List.mem_cons_self
      · rcases List.mem_append.mp z with z | z
        · exact List.mem_append_left _ z
        · exact List.mem_append_right _ (List.mem_cons_of_mem _ z)
theorem Post.quiet_of {α : Type} {m : Res α} {Q : α → Prop} {E E' : Ex → Prop} (h : Post m.quiet Q E) : Post m Q E' := h.quiet
/-- target, tests and element of a comprehension, for all its frames at once -/
theorem lc_uni {scope : Scope} {ρw : List Slot} {elt : Expr} {ifs : List Expr} {u : List Slot → T → List Slot} {js : List Nat} {t : T → Res Bool} {f : T → Res U} (h : ∀ s H C cl fp, LcPart X scope ρw tg elt ifs u js t f s H C cl fp) :
    ∃ (gt : TG) (tt : TT) (te : TE), (∀ s H C cl fp, PG (X.blk s H scope (compEnvC scope cl C X.env) fp) tg gt) ∧ (∀ s H C cl fp, PTs (X.blk s H scope (compEnvC scope cl C X.env) fp) ifs tt) ∧ (∀ s H C cl fp, PE (X.blk s H scope (compEnvC scope cl C X.env) fp) elt te) ∧
      (∀ (S own : List Addr) (ρ : List Slot) (σ : St) (H : Hp) (v : V) (x : T) (Q : St → Hp → Prop), RS X.K S ρ σ H own → rp X.K (hide (S ++ own) H) v x → (∀ σ', RS X.K S (u ρ x) σ' H own → (∀ vs : List Nat, (∀ i ∈ js, i ∈ vs) → wipe σ' vs = wipe σ vs) → Q σ' H) → gt v σ H Q) ∧
      (∀ (x : T) (S own : List Addr) (σ : St) (H : Hp) (Q : Bool → Hp → Prop), RS X.K S (u ρw x) σ H own → Post (t x).quiet (fun b => ∀ H', Same H H' → Q b H') (fun _ => True) → tt σ H Q) ∧
      (∀ (x : T) (S own : List Addr) (σ : St) (H : Hp) (Q : VK), RS X.K S (u ρw x) σ H own → Post (f x).quiet (fun y => ∀ H' v, Same H H' → rp X.K (hide (S ++ own) H') v y → Q v H') (fun _ => True) → te σ H Q) := by
  refine ⟨fun v σ H Q => ∀ s0 H0 C cl fp, ∃ gt, PG (X.blk s0 H0 scope (compEnvC scope cl C X.env) fp) tg gt ∧ gt v σ H Q,
    fun σ H Q => ∀ s0 H0 C cl fp, ∃ tt, PTs (X.blk s0 H0 scope (compEnvC scope cl C X.env) fp) ifs tt ∧ tt σ H Q,
    fun σ H Q => ∀ s0 H0 C cl fp, ∃ te, PE (X.blk s0 H0 scope (compEnvC scope cl C X.env) fp) elt te ∧ te σ H Q, ?_, ?_, ?_, ?_, ?_, ?_⟩
  · refine fun s H C cl fp => ⟨fun pins s1 σ H1 v w Q I r hq => ?_⟩
    obtain ⟨gt, p, q⟩ := hq s H C cl fp
    exact p.run pins s1 σ H1 v w Q I r q
  · refine fun s H C cl fp => ⟨fun pins s1 σ H1 Q I hq => ?_⟩
    obtain ⟨tt, p, q⟩ := hq s H C cl fp
    exact p.run pins s1 σ H1 Q I q
  · refine fun s H C cl fp => ⟨fun pins s1 σ H1 Q I hq => ?_⟩
    obtain ⟨te, p, q⟩ := hq s H C cl fp
    exact p.run pins s1 σ H1 Q I q
  · intro S own ρ σ H v x Q rs r hq s0 H0 C cl fp
    obtain ⟨gt, p, q⟩ := (h s0 H0 C cl fp).tg.ex
    exact ⟨gt, p, q S own ρ σ H v x Q rs r hq⟩
  · intro x S own σ H Q rs hq s0 H0 C cl fp
    obtain ⟨tt, p, q⟩ := (h s0 H0 C cl fp).ts x
    exact ⟨tt, p, q S own σ H Q rs hq.quiet⟩
  · intro x S own σ H Q rs hq s0 H0 C cl fp
    obtain ⟨te, p, q⟩ := ((h s0 H0 C cl fp).el x).ex
    exact ⟨te, p, q S own σ H Q rs hq.quiet⟩
theorem lcX_quiet {α β : Type} {t : α → Res Bool} {f : α → Res β} {xs : List α} {Q : List β → Prop} {E E' : Ex → Prop} (h : Post (lcX t f xs) Q E) : Post (lcX t f xs) Q E' := by
  obtain ⟨h1, h2⟩ := h.guard
  unfold lcX guardR
  rw [h1, if_pos rfl]
  cases e1 : lcM t f xs with
  | ok a => rw [e1] at h2; exact h2
  | bad => rw [e1] at h2; exact h2
  | err z => exact absurd e1 lcM_no
theorem f_lc {elt iter : Expr} {ifs : List Expr} {scope : Scope} {ow : List (Str × Nat)} {ρw : List Slot} {u : List Slot → T → List Slot} {js : List Nat} {t : T → Res Bool} {f : T → Res U} {m : Res (List T)} (C : CtxOk X W lv) (hi : IJ X W ρ tg iter m)
    (h : ∀ s H C cl fp, LcPart X scope ρw tg elt ifs u js t f s H C cl fp) (hw : ρw = wipeS ρ (ow.map (·.2)) := by rfl) (hj : ∀ i ∈ js, i ∈ ow.map (·.2) := by decide) (ok : BlkOk X.N X.env.scope scope ow := by exact blkOk_by (by rfl)) (hs : ∀ x, foldedSetIterable iter X.env x = pure x := by intro _; rfl) :
    FG X W ρ (.ListComp elt [⟨tg, iter, ifs, 0⟩] scope pos) (m.bind fun xs => lcX t f xs) := by
  obtain ⟨wi, pi, qi⟩ := hi.ex
  obtain ⟨gt, tt, te, pg, pt, pe, hg, ht, he⟩ := lc_uni h
  refine ⟨_, pe_lc C.calm C.nd pi ok pg pt pe hs, fun S own σ H Q rs hP => qi S own σ H _ rs (hP.bind.imp (fun xs hx J H1 s1 wj => ?_) fun _ z => z)⟩
  refine lc_read hj (rs.mono s1) hw wj hg ht he (Post.imp (lcX_quiet hx (E' := fun _ => True)) (fun ys hy H' a vs s na e1 e2 => hy H' a vs (s1.trans s) (s1.free na) e1 e2) fun _ z => z)
/-- y = [..], a local -/
theorem n_lcF (i : Nat) {y : Str} {py spos : Pos} {elt iter : Expr} {ifs : List Expr} {scope : Scope} {ow : List (Str × Nat)} {ρw : List Slot} {u : List Slot → T → List Slot} {js : List Nat} {t : T → Res Bool} {f : T → Res U} {m : Res (List T)} {n3 : List U → List Slot} (C : CtxOk X W lv) (hi : IJ X W ρ tg iter m)
    (h : ∀ s H C cl fp, LcPart X scope ρw tg elt ifs u js t f s H C cl fp) (hn : ∀ v, n3 v = ρ.set i (.own U none v) := by intro _; rfl) (hw : ρw = wipeS ρ (ow.map (·.2)) := by rfl) (hl : i < ρ.length := by exact Nat.le_of_ble_eq_true rfl) (hj : ∀ i ∈ js, i ∈ ow.map (·.2) := by decide) (w : WkO ρ ρe := by first | exact True.intro | (repeat (first | exact Wk.nil | refine Wk.s ?_ | refine Wk.n ?_)))
    (hy : X.N[i]? = some y := by rfl) (hyl : X.env.scope.names.lookup y = some .local := by rfl) (hsw : swapsWith (.ListComp elt [⟨tg, iter, ifs, 0⟩] scope pos) (some (.Name y py)) spos.line X.env = pure true := by exact sw_true rfl rfl rfl (by decide +kernel))
    (ok : BlkOk X.N X.env.scope scope ow := by exact blkOk_by (by rfl)) (hs : ∀ x, foldedSetIterable iter X.env x = pure x := by intro _; rfl) :
    N1 X W ρe ρ (.Assign [.Name y py] (.ListComp elt [⟨tg, iter, ifs, 0⟩] scope pos) spos) n3 (m.bind fun xs => lcX t f xs) := by
  obtain ⟨wi, pi, qi⟩ := hi.ex
  obtain ⟨gt, tt, te, pg, pt, pe, hg, ht, he⟩ := lc_uni h
  refine ⟨_, ps_setLc C.calm C.nd hy hyl hsw pi ok pg pt pe hs, fun S own σ H D rs hP => qi S own σ H _ rs (hP.bind.imp (fun xs hx J H1 s1 wj => ?_) fun _ z => z.toX rs w)⟩
  refine lc_read (Q := fun v H2 => D.nx (σ.set i (some v)) H2) hj (rs.mono s1) hw wj hg ht he (Post.imp (lcX_quiet hx (E' := fun _ => True)) (fun ys hy H' a vs s na e1 e2 => hy _ H' (a :: own) ⟨fun b o z _ => (s1.trans s) b o z, fun b z => dom_same (s1.trans s) z, fun b z => ?_⟩ ?_) fun _ z => z)
  · rcases List.mem_cons.mp z with z | z
    · exact .inr (z ▸ s1.free na)
    · exact .inl z
  · rw [hn]
    exact rs.setOwn (s1.trans s) (s1.free na) e1 e2 i hl
/-- .. only read from then on -/
theorem n_lc (i : Nat) {y : Str} {py spos : Pos} {elt iter : Expr} {ifs : List Expr} {scope : Scope} {ow : List (Str × Nat)} {ρw : List Slot} {u : List Slot → T → List Slot} {js : List Nat} {t : T → Res Bool} {f : T → Res U} {m : Res (List T)} {n3 : List U → List Slot} (C : CtxOk X W lv) (hi : IJ X W ρ tg iter m)
    (h : ∀ s H C cl fp, LcPart X scope ρw tg elt ifs u js t f s H C cl fp) (hn : ∀ v, n3 v = ρ.set i (.val (List U) v) := by intro _; rfl) (hw : ρw = wipeS ρ (ow.map (·.2)) := by rfl) (hj : ∀ i ∈ js, i ∈ ow.map (·.2) := by decide) (w : WkO ρ ρe := by first | exact True.intro | (repeat (first | exact Wk.nil | refine Wk.s ?_ | refine Wk.n ?_)))
    (hy : X.N[i]? = some y := by rfl) (hyl : X.env.scope.names.lookup y = some .local := by rfl) (hsw : swapsWith (.ListComp elt [⟨tg, iter, ifs, 0⟩] scope pos) (some (.Name y py)) spos.line X.env = pure true := by exact sw_true rfl rfl rfl (by decide +kernel))
    (ok : BlkOk X.N X.env.scope scope ow := by exact blkOk_by (by rfl)) (hs : ∀ x, foldedSetIterable iter X.env x = pure x := by intro _; rfl) :
    N1 X W ρe ρ (.Assign [.Name y py] (.ListComp elt [⟨tg, iter, ifs, 0⟩] scope pos) spos) n3 (m.bind fun xs => lcX t f xs) := by
  obtain ⟨wi, pi, qi⟩ := hi.ex
  obtain ⟨gt, tt, te, pg, pt, pe, hg, ht, he⟩ := lc_uni h
  refine ⟨_, ps_setLc C.calm C.nd hy hyl hsw pi ok pg pt pe hs, fun S own σ H D rs hP => qi S own σ H _ rs (hP.bind.imp (fun xs hx J H1 s1 wj => ?_) fun _ z => z.toX rs w)⟩
  refine lc_read (Q := fun v H2 => D.nx (σ.set i (some v)) H2) hj (rs.mono s1) hw wj hg ht he (Post.imp (lcX_quiet hx (E' := fun _ => True)) (fun ys hy H' a vs s na e1 e2 => hy _ H' own (Ext.of_same (s1.trans s)) ?_) fun _ z => z)
  rw [hn]
  have e3 : hide (S ++ own) H' a = some (.lst vs) := by
    rw [hide_out fun z => (rs.mono s1).dom a z na]
    exact e1
  have r : rp X.K (hide (S ++ own) H') (V.ref a) ys := ⟨a, vs, rfl, e3, RpAll.mono (hide_mono fun z hz => List.mem_cons_of_mem _ hz) e2⟩
  exact (rs.mono (s1.trans s)).set r i
theorem passN {X : Cx} : Passes (L2N.CX X.prog X.w) X E0 := fun _ _ _ _ _ _ _ q => by
  rcases q with ⟨_, _, _, _, _, _, _, _, _, _, _, _, z⟩
  exact z.elim
theorem takesN {X : Cx} : L2N.Takes X (fun _ _ _ _ => False) := fun _ _ q => by
  rcases q with ⟨_, _, _, _, _, _, _, _, _, _, _, _, _, _, _, _, z⟩
  exact z.elim
/-- the frame of a comprehension's block -/
theorem CtxOk.blk (C : CtxOk X W lv) {s : Shared} {H : Hp} {scope : Scope} {cenv : Env} {fp : List Addr} : CtxOk (X.blk s H scope cenv fp) WF lv :=
  ⟨C.calm, C.nd, takesN, PassesOwn.never, C.room⟩

/-! ### calls of defs -/
def spOf (K : PySem.W.Frag) {A R : Type} [Rp R] (as : A → List AV) (f : A → Res R) : Sp := fun vs H Q E => ∃ (S : List Addr) (x : A), (∀ a ∈ S, H a ≠ none) ∧ ArgsR K (hide S H) vs (as x) ∧
  Post (f x) (fun r => ∀ H' v, Same H H' → rp K (hide S H') v r → Q v H') (fun e => ∀ H' c d, Same H H' → ExR K (hide S H') c d e → E c d H')
def spFr (K : PySem.W.Frag) {A T : Type} [Rp T] (as : A → List AV) (f : A → Res (List T)) : Sp := fun vs H Q E => ∃ (S : List Addr) (x : A), (∀ a ∈ S, H a ≠ none) ∧ ArgsR K (hide S H) vs (as x) ∧
  Post (f x) (fun r => ∀ H' a vs, Same H H' → H a = none → H' a = some (.lst vs) → RpAll K (hide (a :: S) H') vs r → Q (.ref a) H') (fun e => ∀ H' c d, Same H H' → ExR K (hide S H') c d e → E c d H')
structure FOk (P : Program) (w : World) (K : PySem.W.Frag) (mg : Str → Option Value) (base : Heap) (name : Str) (k : Nat) (sp : Sp) : Prop where
  ok : ∃ fd ps, FnOk P w K mg base (L2N.CX P w) k (He.ga K name) fd ps sp ∧ Binds K fd ps []
  kp : PySem.W.keepIn K (.ref (He.ga K name)) = true
  gl : mg name = some (.ref (He.ga K name))
theorem call_err {S own : List Addr} {σ : St} {H H' : Hp} {g : Bool} {ex : Ex} (h : ErrX X W S own σ H ex) (s : Same H H') (hg : g = true) : ∀ H2 c d, Same H' H2 → ExR X.K (hide (reg g S own) H2) c d ex → WE W σ c d H2 := fun H2 c d s2 x => by
  subst hg
  exact h H2 c d (s.trans s2) x
theorem e_call {x : Str} {p : Pos} {es : List Expr} {A R : Type} [Rp R] {as : A → List AV} {f : A → Res R} {m : Res R} {k : Nat} (C : CtxOk X W lv) (F : FOk X.prog X.w X.K X.mg X.base x k (spOf X.K as f)) (ha : AJ X W true ρ (a :: es) as f m) (hk : k ≤ lv := by decide)
    (hg : Gl X x := by rfl) (hdb : (x == ("__debug__" : Str)) = false := by decide) (he : starEach (a :: es) X.env = (false, eval a X.env) :: starEach es X.env := by rfl) (hpl : (backTo pos (starEach es X.env)).any (·.1) = false := by rfl) :
    EG X W true ρ (.Call (.Name x p) (a :: es) [] pos) m := by
  obtain ⟨t, pa, qa⟩ := ha.ex
  obtain ⟨fd, ps, F1, F2⟩ := F.ok
  refine ⟨_, pe_callS F1 (C.room.mono hk) hg F.gl F.kp F2 (fun σ => L2N.passAt C.tk σ) pa hdb he hpl, fun S own σ H Q rs h => ?_⟩
  refine qa S own σ H _ _ _ rs (fun e z => z) h fun x vs H' s r hx => ⟨S ++ own, x, (rs.mono s).dom, r, hx.imp (fun y hy H2 v s2 r2 => hy H2 v (s.trans s2) r2) fun ex z => call_err (g := true) z s rfl⟩
theorem e_call0 {x : Str} {p : Pos} {A R : Type} [Rp R] {as : A → List AV} {f : A → Res R} {k : Nat} (C : CtxOk X W lv) (F : FOk X.prog X.w X.K X.mg X.base x k (spOf X.K as f)) (u : A) (hu : as u = [] := by rfl) (hk : k ≤ lv := by decide)
    (hg : Gl X x := by rfl) (hdb : (x == ("__debug__" : Str)) = false := by decide) : EG X W true ρ (.Call (.Name x p) [] [] pos) (f u).quiet := by
  obtain ⟨fd, ps, F1, F2⟩ := F.ok
  refine ⟨_, pe_call0 F1 (C.room.mono hk) hg F.gl F.kp F2 .nil passN hdb, fun S own σ H Q rs h => ⟨S ++ own, u, rs.dom, hu ▸ .nil, Post.imp (h.quiet (E' := fun _ => False)) (fun y hy H2 v s2 r2 => hy H2 v s2 r2) fun _ z => z.elim⟩⟩
/-- lists of one's own are lent; what would be raised is not served -/
theorem e_callb {x : Str} {p : Pos} {es : List Expr} {A R : Type} [Rp R] {as : A → List AV} {f : A → Res R} {m : Res R} {k : Nat} (C : CtxOk X W lv) (F : FOk X.prog X.w X.K X.mg X.base x k (spOf X.K as f)) (ha : AJ X W false ρ (a :: es) as (fun x => (f x).quiet) m) (hk : k ≤ lv := by decide)
    (hg : Gl X x := by rfl) (hdb : (x == ("__debug__" : Str)) = false := by decide) (he : starEach (a :: es) X.env = (false, eval a X.env) :: starEach es X.env := by rfl) (hpl : (backTo pos (starEach es X.env)).any (·.1) = false := by rfl) :
    EG X W false ρ (.Call (.Name x p) (a :: es) [] pos) m := by
  obtain ⟨t, pa, qa⟩ := ha.ex
  obtain ⟨fd, ps, F1, F2⟩ := F.ok
  refine ⟨_, pe_callS F1 (C.room.mono hk) hg F.gl F.kp F2 (fun σ => L2N.passAt C.tk σ) pa hdb he hpl, fun S own σ H Q rs h => ?_⟩
  refine qa S own σ H _ _ _ rs (fun e z => z) h fun x vs H' s r hx => ⟨S, x, fun b hb => (rs.mono s).dom b (List.mem_append_left _ hb), r, Post.imp (hx.quiet (E' := fun _ => False)) (fun y hy H2 v s2 r2 => hy H2 v (s.trans s2) r2) fun _ z => z.elim⟩
theorem f_call {x : Str} {p : Pos} {es : List Expr} {A : Type} {as : A → List AV} {f : A → Res (List T)} {m : Res (List T)} {k : Nat} (C : CtxOk X W lv) (F : FOk X.prog X.w X.K X.mg X.base x k (spFr X.K as f)) (ha : AJ X W true ρ (a :: es) as f m) (hk : k ≤ lv := by decide)
    (hg : Gl X x := by rfl) (hdb : (x == ("__debug__" : Str)) = false := by decide) (he : starEach (a :: es) X.env = (false, eval a X.env) :: starEach es X.env := by rfl) (hpl : (backTo pos (starEach es X.env)).any (·.1) = false := by rfl) :
    FG X W ρ (.Call (.Name x p) (a :: es) [] pos) m := by
  obtain ⟨t, pa, qa⟩ := ha.ex
  obtain ⟨fd, ps, F1, F2⟩ := F.ok
  refine ⟨_, pe_callS F1 (C.room.mono hk) hg F.gl F.kp F2 (fun σ => L2N.passAt C.tk σ) pa hdb he hpl, fun S own σ H Q rs h => ?_⟩
  refine qa S own σ H _ _ _ rs (fun e z => z) h fun x vs H' s r hx => ⟨S ++ own, x, (rs.mono s).dom, r, hx.imp (fun y hy H2 a vs s2 na e1 e2 => hy H2 a vs (s.trans s2) (s.free na) e1 e2) fun ex z => call_err (g := true) z s rfl⟩

/-! ### defs -/
def AV.slot : AV → Slot
  | @AV.mk T inst x => @Slot.val T inst x
theorem rs_args {K : PySem.W.Frag} {H Hs : Hp} {vs : List V} {xs : List AV} (h : ArgsR K Hs vs xs) (k : Nat) : Rs K Hs H (xs.map AV.slot ++ List.replicate k .non) (vs.map some ++ List.replicate k none) [] := by
  induction h with
  | nil =>
    induction k with
    | zero => exact .nil
    | succ k ih => exact .non ih
  | @cons v vs x xs r _ ih =>
    cases x with
    | @mk T inst x => exact @Rs.val K Hs H _ _ _ T inst x v r ih
theorem rs_start {K : PySem.W.Frag} {S : List Addr} {H : Hp} {N : List Str} {vs : List V} {xs : List AV} (h : ArgsR K (hide S H) vs xs) (hd : ∀ a ∈ S, H a ≠ none) : RS K S (xs.map AV.slot ++ List.replicate (N.length - vs.length) .non) (start N vs) H [] := by
  refine ⟨⟨[], ?_, List.nodup_nil, (fun _ z => nomatch z)⟩, (fun _ z => nomatch z), fun a ha => hd a (by rw [List.append_nil] at ha; exact ha)⟩
  rw [List.append_nil]
  exact rs_args h _
abbrev fcx (P : Program) (w : World) (K : PySem.W.Frag) (mg : Str → Option Value) (base : Heap) (N : List Str) (qual : Str) (scope : Scope) (f : Addr) (cdv : Value) (A : Around) (outer : List Env) (s : Shared) (H : Hp) (E : XK) : Cx := cxOf (L2N.CX P w) P w K mg base N qual scope f cdv A outer s H E
section
variable {P : Program} {w : World} {K : PySem.W.Frag} {mg : Str → Option Value} {base : Heap} {x qual : Str} {params : Arguments} {body : List Stmt} {scope : Scope} {kws : List (Str × V)} {fd : FuncData} {N ps : List Str} {k : Nat} {A : Type} {as : A → List AV}
theorem fctx {f : Addr} {cdv : Value} {A : Around} {outer : List Env} {s : Shared} {H : Hp} {E : XK} (S : FnScope N ps scope) (hr : Room k (A.deeper (PyProof.Rows.envOfC qual scope s.heap.objs.size f cdv))) : CtxOk (fcx P w K mg base N qual scope f cdv A outer s H E) (fun c d _ H' => E c d H') k :=
  ⟨rfl, S.nd, L2N.takes_of rfl rfl rfl rfl, passes_of rfl, hr⟩
/-- a def that hands back a value -/
theorem fok_data {R : Type} [Rp R] {f : A → Res R} {ρ0 : A → List Slot} (F : FunD K x qual params body scope [] kws (He.ga K x) fd) (hgl : mg x = some (.ref (He.ga K x))) (S : FnScope N ps scope) (hb : Binds K fd ps []) (hl : ∀ u, (as u).length = ps.length := by intro _; rfl)
    (h0 : ∀ u, ρ0 u = (as u).map AV.slot ++ List.replicate (N.length - ps.length) .non := by intro _; rfl)
    (d : ∀ cdv A outer s H E, CtxOk (fcx P w K mg base N qual scope (He.ga K x) cdv A outer s H E) (fun c d _ H' => E c d H') k → ∀ u, SR (fcx P w K mg base N qual scope (He.ga K x) cdv A outer s H E) (fun c d _ H' => E c d H') none (ρ0 u) body (retD R) (f u)) :
    FOk P w K mg base x (k + 1) (spOf K as f) := by
  refine ⟨⟨fd, ps, FunD.ok F S (fun vs H Q E h => ?_) (fun cdv A outer s H vs Q E hr h => ?_), hb⟩, F.kp, hgl⟩
  · obtain ⟨S', u, _, r, _⟩ := h
    rw [r.length, hl]
  · obtain ⟨S', u, hd, r, hp⟩ := h
    obtain ⟨t, p, q⟩ := (d cdv A outer s H E (fctx S hr) u).ex
    refine ⟨t, p, q S' [] _ H _ ?_ (hp.imp (fun y hy v σ' H' own' x' _ z => hy H' v x'.nil_same (Rp.mono (hide_mono fun b hb => List.mem_append_left _ hb) z)) fun e he σ' H' own' c d x' _ z => ?_)⟩
    · rw [h0, ← hl u, ← r.length]
      exact rs_start r hd
    · obtain ⟨z1, dx, fs, z2, z3, z4⟩ := z
      refine he H' c d x'.nil_same ⟨z1, dx, fs, z2, hide_mono (fun b hb => List.mem_append_left _ hb) _ _ z3, Paired.imp2 z4 fun a b z => ⟨z.1, ?_⟩⟩
      exact (dp_same (hide_mono fun b hb => List.mem_append_left _ hb) z.2)
end
end
end Py

set_option Elab.async false
set_option linter.all false
set_option maxRecDepth 100000
set_option maxHeartbeats 1000000
/-! Py, part G: defs (further), isinstance, is, == of data. -/
namespace Py
open PySem PySem.Spec L2
open Rp (rp)

section
variable {P : Program} {w : World} {K : PySem.W.Frag} {mg : Str → Option Value} {base : Heap} {x qual : Str} {params : Arguments} {body : List Stmt} {scope : Scope} {kws : List (Str × V)} {fd : FuncData} {N ps : List Str} {k : Nat} {A : Type} {as : A → List AV}
theorem exr_sub {K : PySem.W.Frag} {H H' : Hp} {c : Value} {d : Option Addr} {e : Ex} (s : Same H H') (h : ExR K H c d e) : ExR K H' c d e := by
  obtain ⟨z1, dx, fs, z2, z3, z4⟩ := h
  exact ⟨z1, dx, fs, z2, s _ _ z3, Paired.imp2 z4 fun a b z => ⟨z.1, dp_same s z.2⟩⟩
/-- a def that hands back a new list -/
theorem fok_fr {T : Type} [Rp T] {f : A → Res (List T)} {ρ0 : A → List Slot} (F : FunD K x qual params body scope [] kws (He.ga K x) fd) (hgl : mg x = some (.ref (He.ga K x))) (S : FnScope N ps scope) (hb : Binds K fd ps []) (hl : ∀ u, (as u).length = ps.length := by intro _; rfl)
    (h0 : ∀ u, ρ0 u = (as u).map AV.slot ++ List.replicate (N.length - ps.length) .non := by intro _; rfl)
    (d : ∀ cdv A outer s H E, CtxOk (fcx P w K mg base N qual scope (He.ga K x) cdv A outer s H E) (fun c d _ H' => E c d H') k → ∀ u, SR (fcx P w K mg base N qual scope (He.ga K x) cdv A outer s H E) (fun c d _ H' => E c d H') none (ρ0 u) body (retF T) (f u)) :
    FOk P w K mg base x (k + 1) (spFr K as f) := by
  refine ⟨⟨fd, ps, FunD.ok F S (fun vs H Q E h => ?_) (fun cdv A outer s H vs Q E hr h => ?_), hb⟩, F.kp, hgl⟩
  · obtain ⟨S', u, _, r, _⟩ := h
    rw [r.length, hl]
  · obtain ⟨S', u, hd, r, hp⟩ := h
    obtain ⟨t, p, q⟩ := (d cdv A outer s H E (fctx S hr) u).ex
    refine ⟨t, p, q S' [] _ H _ ?_ (hp.imp (fun y hy v σ' H' own' x' _ z => ?_) fun e he σ' H' own' c d x' _ z => he H' c d x'.nil_same (exr_sub (hide_mono fun b hb => List.mem_append_left _ hb) z))⟩
    · rw [h0, ← hl u, ← r.length]
      exact rs_start r hd
    · obtain ⟨a, vs', rfl, ha, e1, e2⟩ := z
      have na : H a = none := (x'.own a ha).resolve_left (fun z => nomatch z)
      refine hy H' a vs' x'.nil_same na e1 (RpAll.mono (hide_mono fun b hb => ?_) e2)
      rcases List.mem_cons.mp hb with z | z
      · exact z ▸ List.mem_append_right _ ha
      · exact List.mem_append_left _ z
/-- a new list is a value -/
theorem FOk.fr {T : Type} [Rp T] {f : A → Res (List T)} {k : Nat} (F : FOk P w K mg base x k (spFr K as f)) : FOk P w K mg base x k (spOf K as f) := by
  obtain ⟨⟨fd, ps, F1, F2⟩, h2, h3⟩ := F
  refine ⟨⟨fd, ps, F1.imp fun vs H Q E h => ?_, F2⟩, h2, h3⟩
  obtain ⟨S, u, hd, r, hp⟩ := h
  refine ⟨S, u, hd, r, hp.imp (fun y hy H' a vs' s na e1 e2 => hy H' _ s ⟨a, vs', rfl, ?_, RpAll.mono (hide_mono fun z hz => List.mem_cons_of_mem _ hz) e2⟩) fun _ z => z⟩
  rw [hide_out fun z => hd a z na]
  exact e1
/-- a def that hands back None at its end -/
theorem fok_none {S₁ : Type} {f : A → Res S₁} {n : S₁ → List Slot} {ρ0 : A → List Slot} (F : FunD K x qual params body scope [] kws (He.ga K x) fd) (hgl : mg x = some (.ref (He.ga K x))) (S : FnScope N ps scope) (hb : Binds K fd ps []) (hl : ∀ u, (as u).length = ps.length := by intro _; rfl)
    (h0 : ∀ u, ρ0 u = (as u).map AV.slot ++ List.replicate (N.length - ps.length) .non := by intro _; rfl)
    (d : ∀ cdv A outer s H E, CtxOk (fcx P w K mg base N qual scope (He.ga K x) cdv A outer s H E) (fun c d _ H' => E c d H') k → ∀ u, SN (fcx P w K mg base N qual scope (He.ga K x) cdv A outer s H E) (fun c d _ H' => E c d H') none (ρ0 u) body n (f u)) :
    FOk P w K mg base x (k + 1) (spOf K as fun u => (f u).bind fun _ => .ok ()) := by
  refine ⟨⟨fd, ps, FunD.ok F S (fun vs H Q E h => ?_) (fun cdv A outer s H vs Q E hr h => ?_), hb⟩, F.kp, hgl⟩
  · obtain ⟨S', u, _, r, _⟩ := h
    rw [r.length, hl]
  · obtain ⟨S', u, hd, r, hp⟩ := h
    obtain ⟨t, p, q⟩ := (d cdv A outer s H E (fctx S hr) u).ex
    refine ⟨t, p, q S' [] _ H _ ?_ (hp.bind.imp (fun y hy σ' H' own' x' _ => hy H' .non x'.nil_same rfl) fun e he σ' H' own' c d x' _ z => he H' c d x'.nil_same (exr_sub (hide_mono fun b hb => List.mem_append_left _ hb) z))⟩
    rw [h0, ← hl u, ← r.length]
    exact rs_start r hd
theorem FOk.of_eq {R : Type} [Rp R] {f f' : A → Res R} {k : Nat} (F : FOk P w K mg base x k (spOf K as f)) (h : ∀ u, f u = f' u) : FOk P w K mg base x k (spOf K as f') := by
  have e : f = f' := funext h
  subst e
  exact F
theorem FOk.mono {sp : Sp} {j k : Nat} (F : FOk P w K mg base x j sp) (h : j ≤ k) : FOk P w K mg base x k sp := by
  obtain ⟨⟨fd, ps, F1, F2⟩, h2, h3⟩ := F
  exact ⟨⟨fd, ps, F1.mono h, F2⟩, h2, h3⟩
end

/-! ### kinds by name -/
class Ty (T : Type) [Rp T] where
  ty : T → String
  ok : ∀ {K : PySem.W.Frag} {B : List Addr} {H : Hp} {v : V} {x : T}, rp K (hide B H) v x → TyX K H v (.type (ty x))
theorem tyx_tup {K : PySem.W.Frag} {H : Hp} {a : Addr} {vs : List V} (h : SqT K H a vs) : TyX K H (.ref a) (.type "tuple") := by
  rcases h with (h | ⟨o, h⟩) | ⟨o, its, n, h1, h2, _⟩
  · exact .base (.tup h)
  · exact .fTuple h
  · exact .kTuple h1 h2
theorem tyx_lst {K : PySem.W.Frag} {H : Hp} {a : Addr} {vs : List V} (h : SqL K H a vs) : TyX K H (.ref a) (.type "list") := by
  rcases h with (h | ⟨o, h⟩) | ⟨o, its, n, h1, h2, _⟩
  · exact .base (.lst h)
  · exact .base (.frz h)
  · exact .kList h1 h2
instance : Ty Int := ⟨fun _ => "int", fun h => by cases h; exact .base (.int _)⟩
instance : Ty Bool := ⟨fun _ => "bool", fun h => by cases h; exact .base (.bl _)⟩
instance : Ty Str := ⟨fun _ => "str", fun h => by cases h; exact .base (.str _)⟩
instance : Ty Unit := ⟨fun _ => "NoneType", fun h => by cases h; exact .base .non⟩
instance {T : Type} [Rp T] : Ty (List T) := ⟨fun _ => "list", fun h => by
  obtain ⟨a, vs, rfl, e1, _⟩ := h
  exact tyx_lst (.inl (.inl (hide_sub _ _ e1)))⟩
instance {T : Type} [Rp T] : Ty (Tup T) := ⟨fun _ => "tuple", fun h => by
  obtain ⟨a, vs, rfl, e1, _⟩ := h
  exact tyx_tup (SqT.same hide_sub e1)⟩
instance (priority := low) {T : Type} [Places T] : Ty T := ⟨fun _ => "tuple", fun h => by
  obtain ⟨a, vs, rfl, e1, _⟩ := h
  exact tyx_tup (SqT.same hide_sub e1)⟩
instance {T : Type} [Rp T] [Ty T] : Ty (Option T) := ⟨fun | none => "NoneType" | some y => Ty.ty y, fun {K B H v x} h => by
  cases x with
  | none => rw [show v = .non from h]; exact .base .non
  | some y => exact Ty.ok (B := B) h.1⟩
section
variable {S₁ S₂ B R T A U : Type} [Rp T] [Rp A] [Rp U] {X : Cx} {W : WX} {g : Bool} {ρe : Option (List Slot)} {ρ ρ' : List Slot} {e a b : Expr} {pos : Pos} {lv : Nat}
/-- isinstance(x, T) -/
theorem e_isi [Ty T] {m : Res T} {c : String} {n : Str} {p p2 : Pos} {f : T → Bool} (h : EG X W true ρ a m) (hm : X.mg "isinstance" = none) (hm2 : X.mg n = none) (hk : ∀ x : T, kitB (Ty.ty x) c = some (f x) := by intro _; decide +kernel) (hv : bootBuiltins n = some (.type c) := by decide +kernel)
    (hg : Gl X "isinstance" := by rfl) (hg2 : Gl X n := by rfl) (hn : n ≠ "__name__" := by decide) (hdb : (n == ("__debug__" : Str)) = false := by decide)
    (he : starEach [a, .Name n p2] X.env = (false, eval a X.env) :: starEach [.Name n p2] X.env := by rfl) (he2 : starEach [.Name n p2] X.env = (false, eval (.Name n p2) X.env) :: starEach [] X.env := by rfl) (hpl : (backTo pos (starEach [.Name n p2] X.env)).any (·.1) = false := by rfl) :
    EG X W g ρ (.Call (.Name "isinstance" p) [a, .Name n p2] [] pos) (m.bind fun x => .ok (f x)) := by
  obtain ⟨ta, pa, qa⟩ := h.ex
  have pn : PE X (.Name n p2) (tC (.ty c)) := pe_bltn hg2 hm2 hv rfl hn hdb
  refine ⟨_, pe_callB call_isi hg hm (by decide +kernel) (pa_cons pa (pa_cons pn pa_nil he2) he) (by decide) (by decide) he hpl, fun S own σ H Q rs hp => one_run (R' := fun v H2 => rIsi X.K [v, .ty c] H2 Q) qa rs hp fun x v H2 s r1 hq => ?_⟩
  exact ⟨v, .ty c, _, _, f x, rfl, .ty c, Ty.ok r1, kit_ty (hk x), hq H2 _ s rfl⟩
/-- x is True, x is False -/
theorem e_isB {m n : Res Bool} (h : EG X W true ρ a m) (h2 : EG X W true ρ b n) : CJ X W ρ .Is a b (m.bind fun x => n.bind fun y => .ok (decide (x = y))) :=
  e_cmpR (f := fun x y => .ok (decide (x = y))) op_isBl (nomark _) h h2 (fun _ _ H x y v u Q r1 r2 hq => by
    cases r1
    cases r2
    exact ⟨x, y, rfl, rfl, hq⟩)
theorem e_isnotB {m n : Res Bool} (h : EG X W true ρ a m) (h2 : EG X W true ρ b n) : CJ X W ρ .IsNot a b (m.bind fun x => n.bind fun y => .ok (!decide (x = y))) :=
  e_cmpR (f := fun x y => .ok (!decide (x = y))) op_notBl (nomark _) h h2 (fun _ _ H x y v u Q r1 r2 hq => by
    cases r1
    cases r2
    exact ⟨x, y, rfl, rfl, hq⟩)
theorem opt_non {K : PySem.W.Frag} {H : Hp} {v : V} {x : Option T} (h : rp K H v x) : decide (v = .non) = x.isNone := by
  cases x with
  | none => rw [show v = .non from h]; rfl
  | some y => exact decide_eq_false h.2
theorem e_isN {m : Res (Option T)} {j p2} (h : EG X W true ρ a m) : CJ X W ρ .Is a (.Constant .none j p2) (m.bind fun x => .ok x.isNone) := by
  obtain ⟨ta, pa, qa⟩ := h.ex
  refine ⟨_, _, _, op_isN, nomark _, pa, pe_non, fun S own σ H Q R rs hp hR => one_run (R' := fun v H2 => (V.non = .non ∧ R (.bl (decide (v = .non))) H2)) qa rs hp fun x v H2 s r1 hq => ⟨rfl, ?_⟩⟩
  rw [opt_non r1]
  exact hR _ _ (hq H2 s)
theorem e_isnotN {m : Res (Option T)} {j p2} (h : EG X W true ρ a m) : CJ X W ρ .IsNot a (.Constant .none j p2) (m.bind fun x => .ok (!x.isNone)) := by
  obtain ⟨ta, pa, qa⟩ := h.ex
  refine ⟨_, _, _, op_notN, nomark _, pa, pe_non, fun S own σ H Q R rs hp hR => one_run (R' := fun v H2 => (V.non = .non ∧ R (.bl (!decide (v = .non))) H2)) qa rs hp fun x v H2 s r1 hq => ⟨rfl, ?_⟩⟩
  rw [opt_non r1]
  exact hR _ _ (hq H2 s)
end

/-! ### == of data -/
class Dat (T : Type) [Rp T] where
  toD : T → PyData
  ok : T → Bool
  dp : ∀ {K : PySem.W.Frag} {H : Hp} {v : V} {x : T}, rp K H v x → Dp K H v (toD x)
  lay : ∀ x : T, ok x = true → (toD x).canLay0 = true
  dep : Nat
  depth : ∀ x : T, (toD x).depth ≤ dep
  dec : T → T → Bool
  eqv : ∀ x y : T, PyData.eqv (toD x) (toD y) = dec x y
  iff : ∀ x y : T, dec x y = true ↔ x = y
instance : Dat Int where
  toD := .int
  ok _ := true
  dp h := by cases h; exact .int _
  lay x _ := by simp [PyData.canLay0]
  dep := 0
  depth x := by simp [PyData.depth]
  dec x y := decide (x = y)
  eqv x y := by simp [PyData.eqv]; rfl
  iff x y := by simp
instance : Dat Bool where
  toD := .bool
  ok _ := true
  dp h := by cases h; exact .bl _
  lay x _ := by simp [PyData.canLay0]
  dep := 0
  depth x := by simp [PyData.depth]
  dec x y := decide (x = y)
  eqv x y := by simp [PyData.eqv]; rfl
  iff x y := by simp
instance : Dat Str where
  toD := .str
  ok x := PySem.PyData.strOk x
  dp h := by cases h; exact .str _
  lay x h := by simpa [PyData.canLay0] using h
  dep := 0
  depth x := by simp [PyData.depth]
  dec x y := decide (x = y)
  eqv x y := by simp [PyData.eqv]; rfl
  iff x y := by simp
section
variable {T : Type} [Rp T] [Dat T]
theorem dpAll_of {K : PySem.W.Frag} {H : Hp} : ∀ {vs : List V} {xs : List T}, RpAll K H vs xs → DpAll K H vs (xs.map Dat.toD)
  | _, _, .nil => .nil
  | _, _, .cons r t => .cons (Dat.dp r) (dpAll_of t)
theorem layAll_of : ∀ xs : List T, xs.all Dat.ok = true → PyData.canLayAll0 (xs.map Dat.toD) = true
  | [], _ => by simp [PyData.canLayAll0]
  | x :: xs, h => by
    rw [List.all_cons, Bool.and_eq_true] at h
    simp only [List.map_cons, PyData.canLayAll0, Dat.lay x h.1, layAll_of xs h.2, Bool.and_self]
theorem depAll_of : ∀ xs : List T, PyData.depthAll (xs.map Dat.toD) ≤ Dat.dep T
  | [] => by simp [PyData.depthAll]
  | x :: xs => by
    have h1 := depAll_of xs
    have h2 := Dat.depth x
    simp only [List.map_cons, PyData.depthAll]
    omega
def decAll : List T → List T → Bool
  | [], [] => true
  | x :: xs, y :: ys => Dat.dec x y && decAll xs ys
  | _, _ => false
theorem eqvAll_of : ∀ xs ys : List T, PyData.eqvAll (xs.map Dat.toD) (ys.map Dat.toD) = decAll xs ys
  | [], [] => by simp [PyData.eqvAll, decAll]
  | [], _ :: _ => by simp [PyData.eqvAll, decAll]
  | _ :: _, [] => by simp [PyData.eqvAll, decAll]
  | x :: xs, y :: ys => by simp only [List.map_cons, PyData.eqvAll, decAll, Dat.eqv, eqvAll_of xs ys]
theorem decAll_iff : ∀ xs ys : List T, decAll xs ys = true ↔ xs = ys
  | [], [] => by simp [decAll]
  | [], _ :: _ => by simp [decAll]
  | _ :: _, [] => by simp [decAll]
  | x :: xs, y :: ys => by
    rw [decAll, Bool.and_eq_true, Dat.iff, decAll_iff xs ys, List.cons.injEq]
end
instance {T : Type} [Rp T] [Dat T] : Dat (List T) where
  toD xs := .list (xs.map Dat.toD)
  ok xs := xs.all Dat.ok
  dp h := by
    obtain ⟨a, vs, rfl, e1, e2⟩ := h
    exact .lst (.inl (.inl e1)) (dpAll_of e2)
  lay xs h := by simp only [PyData.canLay0]; exact layAll_of xs h
  dep := Dat.dep T + 1
  depth xs := by
    have := depAll_of xs
    simp only [PyData.depth]
    omega
  dec := decAll
  eqv xs ys := by simp only [PyData.eqv]; exact eqvAll_of xs ys
  iff := decAll_iff
instance {T : Type} [Rp T] [Dat T] : Dat (Tup T) where
  toD xs := .tuple (xs.l.map Dat.toD)
  ok xs := xs.l.all Dat.ok
  dp h := by
    obtain ⟨a, vs, rfl, e1, e2⟩ := h
    exact .tup e1 (dpAll_of e2)
  lay xs h := by simp only [PyData.canLay0]; exact layAll_of xs.l h
  dep := Dat.dep T + 1
  depth xs := by
    have := depAll_of xs.l
    simp only [PyData.depth]
    omega
  dec xs ys := decAll xs.l ys.l
  eqv xs ys := by simp only [PyData.eqv]; exact eqvAll_of xs.l ys.l
  iff xs ys := by
    rw [decAll_iff]
    constructor
    · intro h; cases xs; cases ys; simp_all
    · intro h; rw [h]
instance {A B : Type} [Rp A] [Rp B] [Dat A] [Dat B] : Dat (A × B) where
  toD p := .tuple [Dat.toD p.1, Dat.toD p.2]
  ok p := Dat.ok p.1 && Dat.ok p.2
  dp {K H v x} h := by
    obtain ⟨a, vs, rfl, e1, e2⟩ := h
    obtain ⟨x1, x2⟩ := x
    cases e2 with
    | cons r1 e2 =>
      cases e2 with
      | cons r2 e2 =>
        cases e2
        exact .tup e1 (.cons (Dat.dp r1) (.cons (Dat.dp r2) .nil))
  lay p h := by
    rw [Bool.and_eq_true] at h
    simp only [PyData.canLay0, PyData.canLayAll0, Dat.lay p.1 h.1, Dat.lay p.2 h.2, Bool.and_self]
  dep := max (Dat.dep A) (Dat.dep B) + 1
  depth p := by
    have h1 := Dat.depth p.1
    have h2 := Dat.depth p.2
    simp only [PyData.depth, PyData.depthAll]
    omega
  dec p q := Dat.dec p.1 q.1 && Dat.dec p.2 q.2
  eqv p q := by simp only [PyData.eqv, PyData.eqvAll, Dat.eqv, Bool.and_true]
  iff p q := by
    rw [Bool.and_eq_true, Dat.iff, Dat.iff]
    constructor
    · rintro ⟨h1, h2⟩; exact Prod.ext h1 h2
    · intro h; rw [h]; exact ⟨rfl, rfl⟩
/-- data without texts -/
class DatT (T : Type) [Rp T] [Dat T] : Prop where
  ok : ∀ x : T, Dat.ok x = true
instance : DatT Int := ⟨fun _ => rfl⟩
instance : DatT Bool := ⟨fun _ => rfl⟩
instance {T : Type} [Rp T] [Dat T] [DatT T] : DatT (List T) := ⟨fun xs => List.all_eq_true.mpr fun x _ => DatT.ok x⟩
instance {T : Type} [Rp T] [Dat T] [DatT T] : DatT (Tup T) := ⟨fun xs => List.all_eq_true.mpr fun x _ => DatT.ok x⟩
instance {A B : Type} [Rp A] [Rp B] [Dat A] [Dat B] [DatT A] [DatT B] : DatT (A × B) := ⟨fun p => by
  show (Dat.ok p.1 && Dat.ok p.2) = true
  rw [DatT.ok p.1, DatT.ok p.2]; rfl⟩
theorem dat_shaped {T : Type} [Rp T] [Dat T] (hd : Dat.dep T ≤ 64) (x : T) (h : Dat.ok x = true) : SeqAt.shaped (Dat.toD x) = true := by
  show ((Dat.toD x).canLay0 && decide ((Dat.toD x).depth ≤ 64)) = true
  rw [Dat.lay x h, Bool.true_and]
  exact decide_eq_true (Nat.le_trans (Dat.depth x) hd)
section
variable {T : Type} [Rp T] [Dat T] {X : Cx} {W : WX} {g : Bool} {ρ : List Slot} {a b : Expr} {pos : Pos} {lv : Nat}
def eqD (x y : T) : Res Bool := guardR (Dat.ok x && Dat.ok y) (.ok (Dat.dec x y))
theorem e_eqd {m n : Res T} (C : CtxOk X W lv) (h : EG X W true ρ a m) (h2 : EG X W true ρ b n) (hd : Dat.dep T ≤ 64 := by decide) : CJ X W ρ .Eq a b (m.bind fun x => n.bind fun y => eqD x y) :=
  e_cmpR (f := eqD) (op_eqD C.room.units) (nomark _) h h2 (fun _ _ H x y v u Q r1 r2 hq => by
    obtain ⟨h1, hq⟩ := hq.guard
    rw [Bool.and_eq_true] at h1
    refine ⟨_, _, dp_same hide_sub (Dat.dp r1), dp_same hide_sub (Dat.dp r2), dat_shaped hd x h1.1, dat_shaped hd y h1.2, ?_⟩
    rw [Dat.eqv]
    exact hq)
theorem e_ned {m n : Res T} (C : CtxOk X W lv) (h : EG X W true ρ a m) (h2 : EG X W true ρ b n) (hd : Dat.dep T ≤ 64 := by decide) : CJ X W ρ .NotEq a b (m.bind fun x => n.bind fun y => (eqD x y).bind fun k => .ok (!k)) :=
  e_cmpR (f := fun x y => (eqD x y).bind fun k => .ok (!k)) (op_neD C.room.units) (nomark _) h h2 (fun _ _ H x y v u Q r1 r2 hq => by
    obtain ⟨h1, hq⟩ := hq.bind.guard
    rw [Bool.and_eq_true] at h1
    refine ⟨_, _, dp_same hide_sub (Dat.dp r1), dp_same hide_sub (Dat.dp r2), dat_shaped hd x h1.1, dat_shaped hd y h1.2, ?_⟩
    rw [Dat.eqv]
    exact hq)
theorem eqD_T [DatT T] (x y : T) : eqD x y = .ok (Dat.dec x y) := by
  unfold eqD
  rw [DatT.ok x, DatT.ok y]
  rfl
end
end Py

set_option Elab.async false
set_option linter.all false
set_option maxRecDepth 100000
set_option maxHeartbeats 1000000
/-! Py, part H: rules whose parts are values. -/
namespace Py
open PySem PySem.Spec L2
open Rp (rp)
section
variable {X : Cx} {W : WX} {g : Bool} {ρ : List Slot} {T A B C R : Type} [Rp T] [Rp A] [Rp B] [Rp C] [Rp R] {a b e : Expr} {pos p : Pos} {lv : Nat}
theorem LG.of_eq {m m' : Res (List T)} (h : LG X W ρ e m) (z : m = m') : LG X W ρ e m' := z ▸ h
theorem e_ixp {xs : List T} {i : Int} (ha : LG X W ρ a (.ok xs)) (hb : EG X W true ρ b (.ok i)) (hs : PlainIx b := by exact fun _ _ => rfl) : EG X W g ρ (.Subscript a b pos) (idxM xs i) := e_ix ha hb hs
theorem e_ixtp {xs : Tup T} {i : Int} (ha : EG X W g ρ a (.ok xs)) (hb : EG X W true ρ b (.ok i)) (hs : PlainIx b := by exact fun _ _ => rfl) : EG X W g ρ (.Subscript a b pos) (idxM xs.l i) := e_ixt ha hb hs
theorem e_ixscrp {z : Scr} {i : Int} (ha : EG X W true ρ a (.ok z)) (hb : EG X W true ρ b (.ok i)) (hs : PlainIx b := by exact fun _ _ => rfl) : EG X W g ρ (.Subscript a b pos) (idxM z.ns i) := e_ixscr ha hb hs
theorem e_plp {A : Type} [Places A] {j : Nat} {f : A → T} {x : A} {c} {p2 : Pos} (ha : EG X W g ρ a (.ok x)) (hf : ∀ x, (Places.av x)[j]? = some (av (f x)) := by intro _; rfl) : EG X W g ρ (.Subscript a (.Constant (.int (j : Int)) c p2) pos) (.ok (f x)) := e_pl ha hf
theorem o_somep {i : Int} (h : EG X W true ρ e (.ok i)) : OG X W ρ (some e) (.ok (some i)) := o_some h
theorem f_slicep {xs : List T} {l h : Option Int} {lo hi : Option Expr} {p2 : Pos} (ha : LG X W ρ e (.ok xs)) (hl : OG X W ρ lo (.ok l)) (hh : OG X W ρ hi (.ok h)) : FG X W ρ (.Subscript e (.Slice lo hi none p2) pos) (.ok (cut xs l h)) := f_slice ha hl hh
theorem e_lenl {xs : List T} (ha : LG X W ρ a (.ok xs)) (hm : X.mg "len" = none) (hg : Gl X "len" := by rfl)
    (he : starEach [a] X.env = (false, eval a X.env) :: starEach [] X.env := by rfl) (hpl : (backTo pos (starEach [] X.env)).any (·.1) = false := by rfl) : EG X W g ρ (.Call (.Name "len" p) [a] [] pos) (.ok (xs.length : Int)) := by
  obtain ⟨ta, pa, qa⟩ := ha.ex
  refine ⟨_, pe_callB call_len hg hm (by decide +kernel) (pa_cons pa pa_nil he) (by decide) (by decide) he hpl, fun S own σ H Q rs h => qa S own σ H _ rs fun H' a vs s e1 e2 => ?_⟩
  exact ⟨.ref a, xs.length, rfl, .inl ⟨vs, .inl (.inl e1), e2.length.symm⟩, h H' _ s rfl⟩
theorem e_lenp [Len A] {x : A} (ha : EG X W true ρ a (.ok x)) (hm : X.mg "len" = none) (hg : Gl X "len" := by rfl)
    (he : starEach [a] X.env = (false, eval a X.env) :: starEach [] X.env := by rfl) (hpl : (backTo pos (starEach [] X.env)).any (·.1) = false := by rfl) : EG X W g ρ (.Call (.Name "len" p) [a] [] pos) (Len.len x) := e_len ha hm hg he hpl
theorem e_lent {x : Tup T} (ha : EG X W true ρ a (.ok x)) (hm : X.mg "len" = none) (hg : Gl X "len" := by rfl)
    (he : starEach [a] X.env = (false, eval a X.env) :: starEach [] X.env := by rfl) (hpl : (backTo pos (starEach [] X.env)).any (·.1) = false := by rfl) : EG X W g ρ (.Call (.Name "len" p) [a] [] pos) (.ok (x.l.length : Int)) := e_len ha hm hg he hpl
theorem e_lenscr {x : Scr} (ha : EG X W true ρ a (.ok x)) (hm : X.mg "len" = none) (hg : Gl X "len" := by rfl)
    (he : starEach [a] X.env = (false, eval a X.env) :: starEach [] X.env := by rfl) (hpl : (backTo pos (starEach [] X.env)).any (·.1) = false := by rfl) : EG X W g ρ (.Call (.Name "len" p) [a] [] pos) (.ok (x.ns.length : Int)) := e_len ha hm hg he hpl
theorem e_int1p {x : Int} (ha : EG X W true ρ a (.ok x)) (hm : X.mg "int" = none) (hg : Gl X "int" := by rfl)
    (he : starEach [a] X.env = (false, eval a X.env) :: starEach [] X.env := by rfl) (hpl : (backTo pos (starEach [] X.env)).any (·.1) = false := by rfl) : EG X W g ρ (.Call (.Name "int" p) [a] [] pos) (.ok x) := e_int1 ha hm hg he hpl
theorem e_int1m {m : Res Int} (ha : EG X W true ρ a m) (hm : X.mg "int" = none) (hg : Gl X "int" := by rfl)
    (he : starEach [a] X.env = (false, eval a X.env) :: starEach [] X.env := by rfl) (hpl : (backTo pos (starEach [] X.env)).any (·.1) = false := by rfl) : EG X W g ρ (.Call (.Name "int" p) [a] [] pos) m := (e_int1 ha hm hg he hpl).of_eq (by cases m <;> rfl)
theorem e_absp {x : Int} (ha : EG X W true ρ a (.ok x)) (hm : X.mg "abs" = none) (hg : Gl X "abs" := by rfl)
    (he : starEach [a] X.env = (false, eval a X.env) :: starEach [] X.env := by rfl) (hpl : (backTo pos (starEach [] X.env)).any (·.1) = false := by rfl) : EG X W g ρ (.Call (.Name "abs" p) [a] [] pos) (.ok (x.natAbs : Int)) := e_abs ha hm hg he hpl
theorem e_sump {xs : List Int} (hc : X.calm = true) (ha : LG X W ρ a (.ok xs)) (hm : X.mg "sum" = none) (hg : Gl X "sum" := by rfl)
    (he : starEach [a] X.env = (false, eval a X.env) :: starEach [] X.env := by rfl) (hpl : (backTo pos (starEach [] X.env)).any (·.1) = false := by rfl) : EG X W g ρ (.Call (.Name "sum" p) [a] [] pos) (.ok xs.sum) := e_sum hc ha hm hg he hpl
theorem e_max2p {x y : Int} (hc : X.calm = true) (ha : EG X W true ρ a (.ok x)) (hb : EG X W true ρ b (.ok y)) (hm : X.mg "max" = none) (hg : Gl X "max" := by rfl)
    (he : starEach [a, b] X.env = (false, eval a X.env) :: starEach [b] X.env := by rfl) (he2 : starEach [b] X.env = (false, eval b X.env) :: starEach [] X.env := by rfl) (hpl : (backTo pos (starEach [b] X.env)).any (·.1) = false := by rfl) :
    EG X W g ρ (.Call (.Name "max" p) [a, b] [] pos) (.ok (if y > x then y else x)) := e_max2 hc ha hb hm hg he he2 hpl
theorem e_min2p {x y : Int} (hc : X.calm = true) (ha : EG X W true ρ a (.ok x)) (hb : EG X W true ρ b (.ok y)) (hm : X.mg "min" = none) (hg : Gl X "min" := by rfl)
    (he : starEach [a, b] X.env = (false, eval a X.env) :: starEach [b] X.env := by rfl) (he2 : starEach [b] X.env = (false, eval b X.env) :: starEach [] X.env := by rfl) (hpl : (backTo pos (starEach [b] X.env)).any (·.1) = false := by rfl) :
    EG X W g ρ (.Call (.Name "min" p) [a, b] [] pos) (.ok (if y < x then y else x)) := e_min2 hc ha hb hm hg he he2 hpl
theorem e_gcdp {x : Str} {u v : Int} (ha : EG X W true ρ a (.ok u)) (hb : EG X W true ρ b (.ok v)) (hm : X.mg x = some (.builtin "math.gcd")) (hg : Gl X x := by rfl) (hdb : (x == ("__debug__" : Str)) = false := by decide)
    (he : starEach [a, b] X.env = (false, eval a X.env) :: starEach [b] X.env := by rfl) (he2 : starEach [b] X.env = (false, eval b X.env) :: starEach [] X.env := by rfl) (hpl : (backTo pos (starEach [b] X.env)).any (·.1) = false := by rfl) :
    EG X W g ρ (.Call (.Name x p) [a, b] [] pos) (.ok ((Nat.gcd u.natAbs v.natAbs : Nat) : Int)) := e_gcd ha hb hm hg hdb he he2 hpl
theorem f_listofp {xs : List T} (ha : LG X W ρ a (.ok xs)) (hm : X.mg "list" = none) (hg : Gl X "list" := by rfl)
    (he : starEach [a] X.env = (false, eval a X.env) :: starEach [] X.env := by rfl) (hpl : (backTo pos (starEach [] X.env)).any (·.1) = false := by rfl) : FG X W ρ (.Call (.Name "list" p) [a] [] pos) (.ok xs) := f_listof ha hm hg he hpl
theorem f_listoftp {xs : Tup T} (ha : EG X W true ρ a (.ok xs)) (hm : X.mg "list" = none) (hg : Gl X "list" := by rfl)
    (he : starEach [a] X.env = (false, eval a X.env) :: starEach [] X.env := by rfl) (hpl : (backTo pos (starEach [] X.env)).any (·.1) = false := by rfl) : FG X W ρ (.Call (.Name "list" p) [a] [] pos) (.ok xs.l) := f_listoft ha hm hg he hpl
theorem e_tupofp {xs : List T} (ha : LG X W ρ a (.ok xs)) (hm : X.mg "tuple" = none) (hg : Gl X "tuple" := by rfl)
    (he : starEach [a] X.env = (false, eval a X.env) :: starEach [] X.env := by rfl) (hpl : (backTo pos (starEach [] X.env)).any (·.1) = false := by rfl) : EG X W g ρ (.Call (.Name "tuple" p) [a] [] pos) (.ok (⟨xs⟩ : Tup T)) := e_tupof ha hm hg he hpl
def catM {α : Type} (xs ys : List α) : Res (List α) := guardR (decide (xs.length + ys.length ≤ sizeLine)) (.ok (xs ++ ys))
theorem f_catp {xs ys : List T} (ha : LG X W ρ a (.ok xs)) (hb : LG X W ρ b (.ok ys)) : FG X W ρ (.BinOp a .Add b pos) (catM xs ys) := f_cat ha hb
theorem f_catm {ma mb : Res (List T)} (ha : LG X W ρ a ma) (hb : LG X W ρ b mb) : FG X W ρ (.BinOp a .Add b pos) (ma.bind fun xs => mb.bind fun ys => catM xs ys) := f_cat ha hb
theorem f_repp {xs : List T} {k : Int} (ha : LG X W ρ a (.ok xs)) (hb : EG X W true ρ b (.ok k)) : FG X W ρ (.BinOp a .Mult b pos) (repM xs k) := f_rep ha hb
theorem e_isip [Ty T] {x : T} {c : String} {n : Str} {p2 : Pos} {f : T → Bool} (h : EG X W true ρ a (.ok x)) (hm : X.mg "isinstance" = none) (hm2 : X.mg n = none) (hk : ∀ x : T, kitB (Ty.ty x) c = some (f x) := by intro _; decide +kernel) (hv : bootBuiltins n = some (.type c) := by decide +kernel)
    (hg : Gl X "isinstance" := by rfl) (hg2 : Gl X n := by rfl) (hn : n ≠ "__name__" := by decide) (hdb : (n == ("__debug__" : Str)) = false := by decide)
    (he : starEach [a, .Name n p2] X.env = (false, eval a X.env) :: starEach [.Name n p2] X.env := by rfl) (he2 : starEach [.Name n p2] X.env = (false, eval (.Name n p2) X.env) :: starEach [] X.env := by rfl) (hpl : (backTo pos (starEach [.Name n p2] X.env)).any (·.1) = false := by rfl) :
    EG X W g ρ (.Call (.Name "isinstance" p) [a, .Name n p2] [] pos) (.ok (f x)) := e_isi h hm hm2 hk hv hg hg2 hn hdb he he2 hpl
theorem e_isBp {x y : Bool} (h : EG X W true ρ a (.ok x)) (h2 : EG X W true ρ b (.ok y)) : CJ X W ρ .Is a b (.ok (decide (x = y))) := e_isB h h2
theorem e_isnotBp {x y : Bool} (h : EG X W true ρ a (.ok x)) (h2 : EG X W true ρ b (.ok y)) : CJ X W ρ .IsNot a b (.ok (!decide (x = y))) := e_isnotB h h2
theorem e_isNp {x : Option T} {j p2} (h : EG X W true ρ a (.ok x)) : CJ X W ρ .Is a (.Constant .none j p2) (.ok x.isNone) := e_isN h
theorem e_isnotNp {x : Option T} {j p2} (h : EG X W true ρ a (.ok x)) : CJ X W ρ .IsNot a (.Constant .none j p2) (.ok (!x.isNone)) := e_isnotN h
theorem e_eqdp [Dat T] {x y : T} (C : CtxOk X W lv) (h : EG X W true ρ a (.ok x)) (h2 : EG X W true ρ b (.ok y)) (hd : Dat.dep T ≤ 64 := by decide) : CJ X W ρ .Eq a b (eqD x y) := e_eqd C h h2 hd
theorem e_eqdT [Dat T] [DatT T] {x y : T} (C : CtxOk X W lv) (h : EG X W true ρ a (.ok x)) (h2 : EG X W true ρ b (.ok y)) (hd : Dat.dep T ≤ 64 := by decide) : CJ X W ρ .Eq a b (.ok (Dat.dec x y)) := (e_eqd C h h2 hd).of_eq (eqD_T x y)
theorem e_nedT [Dat T] [DatT T] {x y : T} (C : CtxOk X W lv) (h : EG X W true ρ a (.ok x)) (h2 : EG X W true ρ b (.ok y)) (hd : Dat.dep T ≤ 64 := by decide) : CJ X W ρ .NotEq a b (.ok (!Dat.dec x y)) := (e_ned C h h2 hd).of_eq (show (eqD x y).bind _ = _ by rw [eqD_T]; rfl)
theorem e_eqdm [Dat T] [DatT T] {m n : Res T} (C : CtxOk X W lv) (h : EG X W true ρ a m) (h2 : EG X W true ρ b n) (hd : Dat.dep T ≤ 64 := by decide) : CJ X W ρ .Eq a b (m.bind fun x => n.bind fun y => .ok (Dat.dec x y)) := (e_eqd C h h2 hd).of_eq (by
  congr 1; funext x; congr 1; funext y; exact eqD_T x y)
theorem e_nedm [Dat T] [DatT T] {m n : Res T} (C : CtxOk X W lv) (h : EG X W true ρ a m) (h2 : EG X W true ρ b n) (hd : Dat.dep T ≤ 64 := by decide) : CJ X W ρ .NotEq a b (m.bind fun x => n.bind fun y => .ok (!Dat.dec x y)) := (e_ned C h h2 hd).of_eq (by
  congr 1; funext x; congr 1; funext y; rw [eqD_T]; rfl)
end
section
variable {X : Cx} {W : WX} {g : Bool} {ρ : List Slot} {T A : Type} [Rp T] [Rp A] {a e tg : Expr} {pos p : Pos} {lv : Nat}
theorem i_range1p {j : Int} (h : EG X W true ρ a (.ok j)) (hm : X.mg "range" = none) (hg : Gl X "range" := by rfl) (hs : starEach [a] X.env = [(false, eval a X.env)] := by rfl) (he : starEach (a :: []) X.env = (false, eval a X.env) :: starEach [] X.env := by rfl) :
    IJ X W ρ tg (.Call (.Name "range" p) [a] [] pos) (guardR (inRange j) (.ok (rng 0 j))) := i_range1 h hm hg hs he
theorem i_range2p {c : Expr} {i j : Int} (h : EG X W true ρ a (.ok i)) (h2 : EG X W true ρ c (.ok j)) (hm : X.mg "range" = none) (hg : Gl X "range" := by rfl) (hs : starEach [a, c] X.env = [(false, eval a X.env), (false, eval c X.env)] := by rfl) (hs2 : starEach [c] X.env = [(false, eval c X.env)] := by rfl)
    (he : starEach (a :: [c]) X.env = (false, eval a X.env) :: starEach [c] X.env := by rfl) (he2 : starEach (c :: []) X.env = (false, eval c X.env) :: starEach [] X.env := by rfl) :
    IJ X W ρ tg (.Call (.Name "range" p) [a, c] [] pos) (guardR (inRange i && inRange j) (.ok (rng i j))) := i_range2 h h2 hm hg hs hs2 he he2
theorem i_enump {xs : List T} {elts : List Expr} {kk : Nat} {tpos : Pos} (h : EG X W true ρ a (.ok xs)) (hm : X.mg "enumerate" = none) (hg : Gl X "enumerate" := by rfl) (hs : starEach [a] X.env = [(false, eval a X.env)] := by rfl) (he : starEach (a :: []) X.env = (false, eval a X.env) :: starEach [] X.env := by rfl) :
    IJ X W ρ (.Tuple elts kk tpos) (.Call (.Name "enumerate" p) [a] [] pos) (.ok (enumL xs)) := i_enum h hm hg hs he
theorem i_zipp {c : Expr} {xs : List T} {ys : List A} {elts : List Expr} {kk : Nat} {tpos : Pos} (h : EG X W true ρ a (.ok xs)) (h2 : EG X W true ρ c (.ok ys)) (hm : X.mg "zip" = none) (hg : Gl X "zip" := by rfl)
    (he : starEach (a :: [c]) X.env = (false, eval a X.env) :: starEach [c] X.env := by rfl) (he2 : starEach (c :: []) X.env = (false, eval c X.env) :: starEach [] X.env := by rfl) (hpl : (backTo pos (starEach [c] X.env)).any (·.1) = false := by rfl) :
    IJ X W ρ (.Tuple elts kk tpos) (.Call (.Name "zip" p) [a, c] [] pos) (.ok (xs.zip ys)) := i_zip h h2 hm hg he he2 hpl
theorem i_tupp {xs : Tup T} (h : EG X W true ρ e (.ok xs)) : IJ X W ρ tg e (.ok xs.l) := i_tup h
theorem i_strp {z : Str} (h : EG X W true ρ e (.ok z)) : IJ X W ρ tg e (.ok (signs z)) := i_str h
end
end Py

set_option Elab.async false
set_option linter.all false
set_option maxRecDepth 100000
set_option maxHeartbeats 1000000
/-! Py, part I: shapes that the generator prints. -/
namespace Py
open PySem PySem.Spec L2
open Rp (rp)
section
variable {S₁ S₂ B R T A : Type} [Rp T] [Rp A] {X : Cx} {W : WX} {g : Bool} {ρe : Option (List Slot)} {ρ ρ' : List Slot} {st : Stmt} {rest sts sa sb : List Stmt} {n n1 : S₁ → List Slot} {n2 : S₂ → List Slot} {b : B → List Slot} {Z : Rt R} {e a c : Expr} {pos : Pos} {lv : Nat}
theorem b_at {m : Res S₁} (ρ' : List Slot) (h : SN X W ρe ρ' sts n m) (e : ρ = ρ' := by rfl) : SN X W ρe ρ sts n m := e ▸ h
theorem r_at {m : Res R} (ρ' : List Slot) (h : SR X W ρe ρ' sts Z m) (e : ρ = ρ' := by rfl) : SR X W ρe ρ sts Z m := e ▸ h
theorem c_at {m : Res (Ctl S₁ B R)} (ρ' : List Slot) (h : SC X W ρe ρ' sts n b Z m) (e : ρ = ρ' := by rfl) : SC X W ρe ρ sts n b Z m := e ▸ h
theorem e_at {m : Res T} (ρ' : List Slot) (h : EG X W g ρ' e m) (z : ρ = ρ' := by rfl) : EG X W g ρ e m := z ▸ h
theorem t_at {m : Res Bool} (ρ' : List Slot) (h : TJ X W ρ' e m) (z : ρ = ρ' := by rfl) : TJ X W ρ e m := z ▸ h
theorem n_ifp {p : Bool} {ma mb : Res S₁} (hc : TJ X W ρ c (.ok p)) (h1 : SN X W ρe ρ sa n ma) (h2 : SN X W ρe ρ sb n mb) (w : WkO ρ ρe := by first | exact True.intro | (repeat (first | exact Wk.nil | refine Wk.s ?_ | refine Wk.n ?_))) : N1 X W ρe ρ (.If c sa sb pos) n (if p then ma else mb) := n_if hc h1 h2 w
theorem c_ifp {p : Bool} {ma mb : Res (Ctl S₁ B R)} (hc : TJ X W ρ c (.ok p)) (h1 : SC X W ρe ρ sa n b Z ma) (h2 : SC X W ρe ρ sb n b Z mb) (w : WkO ρ ρe := by first | exact True.intro | (repeat (first | exact Wk.nil | refine Wk.s ?_ | refine Wk.n ?_))) : C1 X W ρe ρ (.If c sa sb pos) n b Z (if p then ma else mb) := c_if hc h1 h2 w
theorem r_ifp {p : Bool} {ma mb : Res R} (hc : TJ X W ρ c (.ok p)) (h1 : SR X W ρe ρ sa Z ma) (h2 : SR X W ρe ρ rest Z mb) (w : WkO ρ ρe := by first | exact True.intro | (repeat (first | exact Wk.nil | refine Wk.s ?_ | refine Wk.n ?_))) : SR X W ρe ρ (.If c sa [] pos :: rest) Z (if p then ma else mb) := r_if hc h1 h2 w
theorem r_if2p {p : Bool} {ma mb : Res R} (hc : TJ X W ρ c (.ok p)) (h1 : SR X W ρe ρ sa Z ma) (h2 : SR X W ρe ρ sb Z mb) (w : WkO ρ ρe := by first | exact True.intro | (repeat (first | exact Wk.nil | refine Wk.s ?_ | refine Wk.n ?_))) : SR X W ρe ρ (.If c sa sb pos :: rest) Z (if p then ma else mb) := r_if2 hc h1 h2 w
def liftC {S B R : Type} (m : Res (Ctl Empty B R)) : Res (Ctl S B R) := m.bind fun
  | .nx z => nomatch z
  | .rt r => .ok (.rt r)
  | .bk x => .ok (.bk x)
  | .ct x => .ok (.ct x)
def eb : Empty → List Slot := fun z => nomatch z
/-- if that jumps or returns on its yes, then the rest -/
theorem c_if1 {mc : Res Bool} {ma : Res (Ctl Empty B R)} {mb : Res (Ctl S₁ B R)} (hc : TJ X W ρ c mc) (h1 : SC X W ρe ρ sa eb b Z ma) (h2 : SC X W ρe ρ rest n b Z mb) (w : WkO ρ ρe := by first | exact True.intro | (repeat (first | exact Wk.nil | refine Wk.s ?_ | refine Wk.n ?_))) : SC X W ρe ρ (.If c sa [] pos :: rest) n b Z (mc.bind fun k => if k then liftC ma else mb) := by
  obtain ⟨tc, pc, qc⟩ := hc.ex
  obtain ⟨ta, pa, qa⟩ := h1.ex
  obtain ⟨tb, pb, qb⟩ := h2.ex
  refine ⟨_, pss_cons (ps_if pc pa pss_nil) pb, fun S own σ H D rs h => if_run (c := c) qc rs w h fun k H' s hk => ?_⟩
  cases k with
  | true =>
    rw [if_pos rfl]
    refine qa S own σ H' _ (rs.mono s) ((show Post (ma.bind _) _ _ from hk).bind.imp (fun z hz => ?_) fun _ z => z.mono (Ext.of_same s))
    cases z with
    | nx z => exact nomatch z
    | rt r => exact RtP.mono hz (Ext.of_same s)
    | bk x => exact NxP.mono hz (Ext.of_same s)
    | ct x => exact NxP.mono hz (Ext.of_same s)
  | false => rw [if_neg Bool.false_ne_true]; exact qb S own σ H' D (rs.mono s) (Post.imp (show Post mb _ _ from hk) (fun _ z => CtlP.mono z (Ext.of_same s)) fun _ z => z.mono (Ext.of_same s))
theorem c_if1p {p : Bool} {ma : Res (Ctl Empty B R)} {mb : Res (Ctl S₁ B R)} (hc : TJ X W ρ c (.ok p)) (h1 : SC X W ρe ρ sa eb b Z ma) (h2 : SC X W ρe ρ rest n b Z mb) (w : WkO ρ ρe := by first | exact True.intro | (repeat (first | exact Wk.nil | refine Wk.s ?_ | refine Wk.n ?_))) : SC X W ρe ρ (.If c sa [] pos :: rest) n b Z (if p then liftC ma else mb) := c_if1 hc h1 h2 w
/-- a return within a loop -/
theorem SR.cp {r : R} (h : SR X W ρe ρ sts Z (.ok r)) : SC X W ρe ρ sts n b Z (.ok (.rt r)) := SR.c h
theorem SN.cp {r : S₁} (h : SN X W ρe ρ sts n (.ok r)) : SC X W ρe ρ sts n b Z (.ok (.nx r)) := SN.c h
/-- a value that is known is put in at once -/
theorem r_consp {v : S₂} {m2 : Res R} (h1 : N1 X W ρe ρ st n2 (.ok v)) (h2 : SR X W ρe (n2 v) rest Z m2) : SR X W ρe ρ (st :: rest) Z m2 := by
  obtain ⟨t1, p1, q1⟩ := h1.ex
  obtain ⟨t2, p2, q2⟩ := h2.ex
  exact ⟨_, pss_cons p1 p2, fun S own σ H D rs h => q1 S own σ H _ rs fun σ1 H1 own1 x1 r1 => q2 S own1 σ1 H1 D r1 (Post.imp h (fun _ z => z.mono x1) fun _ z => z.mono x1)⟩
theorem b_consp {v : S₂} {m2 : Res S₁} (h1 : N1 X W ρe ρ st n2 (.ok v)) (h2 : SN X W ρe (n2 v) rest n m2) : SN X W ρe ρ (st :: rest) n m2 := by
  obtain ⟨t1, p1, q1⟩ := h1.ex
  obtain ⟨t2, p2, q2⟩ := h2.ex
  exact ⟨_, pss_cons p1 p2, fun S own σ H D rs h => q1 S own σ H _ rs fun σ1 H1 own1 x1 r1 => q2 S own1 σ1 H1 D r1 (Post.imp h (fun _ z => z.mono x1) fun _ z => z.mono x1)⟩
theorem c_consp {v : S₂} {m2 : Res (Ctl S₁ B R)} (h1 : N1 X W ρe ρ st n2 (.ok v)) (h2 : SC X W ρe (n2 v) rest n b Z m2) : SC X W ρe ρ (st :: rest) n b Z m2 := by
  obtain ⟨t1, p1, q1⟩ := h1.ex
  obtain ⟨t2, p2, q2⟩ := h2.ex
  exact ⟨_, pss_cons p1 p2, fun S own σ H D rs h => q1 S own σ H _ rs fun σ1 H1 own1 x1 r1 => q2 S own1 σ1 H1 D r1 (Post.imp h (fun _ z => CtlP.mono z x1) fun _ z => z.mono x1)⟩
/-! ### truth of lists -/
theorem t_list {m : Res (List T)} (h : LG X W ρ e m) (he : ∀ whole, isTrue e X.env whole = (do let v ← whole; standAt e.pos; holding [v] (truthy v)) := by intro _; rfl) : TJ X W ρ e (m.bind fun xs => .ok (!xs.isEmpty)) := by
  obtain ⟨t, p, q⟩ := h.ex
  refine ⟨_, pt_truth p he, fun S own σ H Q rs hp => q S own σ H _ rs (hp.bind.imp (fun xs hx H' a vs s e1 e2 => ⟨!xs.isEmpty, .inl ⟨vs, .inl (.inl e1), ?_⟩, hx H' s⟩) fun _ z => z)⟩
  have := e2.length
  cases vs <;> cases xs <;> simp at this <;> rfl
theorem t_listp {xs : List T} (h : LG X W ρ e (.ok xs)) (he : ∀ whole, isTrue e X.env whole = (do let v ← whole; standAt e.pos; holding [v] (truthy v)) := by intro _; rfl) : TJ X W ρ e (.ok (!xs.isEmpty)) := t_list h he
theorem t_tup {m : Res (Tup T)} (h : EG X W true ρ e m) (he : ∀ whole, isTrue e X.env whole = (do let v ← whole; standAt e.pos; holding [v] (truthy v)) := by intro _; rfl) : TJ X W ρ e (m.bind fun xs => .ok (!xs.l.isEmpty)) := by
  obtain ⟨t, p, q⟩ := h.ex
  refine ⟨_, pt_truth p he, fun S own σ H Q rs hp => q S own σ H _ rs (hp.bind.imp (fun xs hx H' v s r => ?_) fun _ z => z)⟩
  obtain ⟨a, vs, rfl, e1, e2⟩ := r
  refine ⟨!xs.l.isEmpty, .inr (.inl ⟨vs, SqT.same hide_sub e1, ?_⟩), hx H' s⟩
  have := e2.length
  cases vs <;> cases hh : xs.l <;> rw [hh] at this <;> simp at this <;> rfl
theorem e_eqdB [Dat T] [DatT T] {m n : Res T} (C : CtxOk X W lv) (h : EG X W false ρ a m) (h2 : EG X W false ρ e n) (hd : Dat.dep T ≤ 64 := by decide) : CJ X W ρ .Eq a e (m.bind fun x => n.bind fun y => .ok (Dat.dec x y)) := by
  refine (e_cmpR (f := eqD) (op_eqD C.room.units) (nomark _) h h2 (fun _ _ H x y v u Q r1 r2 hq => ?_)).of_eq (by congr 1; funext x; congr 1; funext y; exact eqD_T x y)
  rw [eqD_T] at hq
  refine ⟨_, _, dp_same hide_sub (Dat.dp r1), dp_same hide_sub (Dat.dp r2), dat_shaped hd x (DatT.ok x), dat_shaped hd y (DatT.ok y), ?_⟩
  rw [Dat.eqv]
  exact hq
theorem e_nedB [Dat T] [DatT T] {m n : Res T} (C : CtxOk X W lv) (h : EG X W false ρ a m) (h2 : EG X W false ρ e n) (hd : Dat.dep T ≤ 64 := by decide) : CJ X W ρ .NotEq a e (m.bind fun x => n.bind fun y => .ok (!Dat.dec x y)) := by
  refine (e_cmpR (f := fun x y => (eqD x y).bind fun k => .ok (!k)) (op_neD C.room.units) (nomark _) h h2 (fun _ _ H x y v u Q r1 r2 hq => ?_)).of_eq (by congr 1; funext x; congr 1; funext y; rw [eqD_T]; rfl)
  rw [eqD_T] at hq
  refine ⟨_, _, dp_same hide_sub (Dat.dp r1), dp_same hide_sub (Dat.dp r2), dat_shaped hd x (DatT.ok x), dat_shaped hd y (DatT.ok y), ?_⟩
  rw [Dat.eqv]
  exact hq
/-! ### the law's end -/
theorem law_sp {K : PySem.W.Frag} {f : Scr × Unit → Res Bool} {H : Hp} {a : Addr} {ns : List Int} (h : f (⟨ns⟩, ()) = .ok true) (hS : SqL K H a (ns.map V.int)) : spOf K (asC asN) f [.ref a] H (fun v _ => v = .bl true) fun _ _ _ => False := by
  refine ⟨[], (⟨ns⟩, ()), (fun _ z => nomatch z), .cons ⟨a, rfl, ?_⟩ .nil, ?_⟩
  · rw [hide_nil]; exact hS
  · rw [h]
    exact fun H' v s r => r
end
end Py

set_option Elab.async false
set_option linter.all false
set_option maxRecDepth 100000
set_option maxHeartbeats 1000000
/-! Py, part J: data of any kind; a def that calls itself. -/
namespace Py
open PySem PySem.Spec L2
open Rp (rp)

/-- a value of any kind, as data -/
structure PD where
  d : PyData
instance : Rp PD where
  rp K H v x := Dp K H v x.d
  mono s h := dp_same s h
def tyD : PyData → String
  | .none => "NoneType" | .bool _ => "bool" | .int _ => "int" | .str _ => "str" | .list _ => "list" | .tuple _ => "tuple" | .dict _ => "dict"
instance : Ty PD := ⟨fun x => tyD x.d, fun {K B H v x} h => by
  obtain ⟨d⟩ := x
  cases h with
  | non => exact .base .non
  | bl b => exact .base (.bl _)
  | int i => exact .base (.int _)
  | str x => exact .base (.str _)
  | lst h r => exact tyx_lst (hide_sub.seq h)
  | tup h r => exact tyx_tup (SqT.same hide_sub h)⟩
def isTup : PD → Bool | ⟨.tuple _⟩ => true | _ => false
def isLst : PD → Bool | ⟨.list _⟩ => true | _ => false
def isBl : PD → Bool | ⟨.bool _⟩ => true | _ => false
def isInt : PD → Bool | ⟨.int _⟩ => true | ⟨.bool _⟩ => true | _ => false
def isStr : PD → Bool | ⟨.str _⟩ => true | _ => false
theorem isTup_ok (x : PD) : kitB (Ty.ty x) "tuple" = some (isTup x) := by
  obtain ⟨d⟩ := x
  cases d <;> first | exact (by decide +kernel : kitB "NoneType" "tuple" = some false) | exact (by decide +kernel : kitB "bool" "tuple" = some false) | exact (by decide +kernel : kitB "int" "tuple" = some false) | exact (by decide +kernel : kitB "str" "tuple" = some false) | exact (by decide +kernel : kitB "list" "tuple" = some false) | exact (by decide +kernel : kitB "tuple" "tuple" = some true) | exact (by decide +kernel : kitB "dict" "tuple" = some false)
theorem isLst_ok (x : PD) : kitB (Ty.ty x) "list" = some (isLst x) := by
  obtain ⟨d⟩ := x
  cases d <;> first | exact (by decide +kernel : kitB "NoneType" "list" = some false) | exact (by decide +kernel : kitB "bool" "list" = some false) | exact (by decide +kernel : kitB "int" "list" = some false) | exact (by decide +kernel : kitB "str" "list" = some false) | exact (by decide +kernel : kitB "list" "list" = some true) | exact (by decide +kernel : kitB "tuple" "list" = some false) | exact (by decide +kernel : kitB "dict" "list" = some false)
theorem isBl_ok (x : PD) : kitB (Ty.ty x) "bool" = some (isBl x) := by
  obtain ⟨d⟩ := x
  cases d <;> first | exact (by decide +kernel : kitB "NoneType" "bool" = some false) | exact (by decide +kernel : kitB "bool" "bool" = some true) | exact (by decide +kernel : kitB "int" "bool" = some false) | exact (by decide +kernel : kitB "str" "bool" = some false) | exact (by decide +kernel : kitB "list" "bool" = some false) | exact (by decide +kernel : kitB "tuple" "bool" = some false) | exact (by decide +kernel : kitB "dict" "bool" = some false)
theorem isInt_ok (x : PD) : kitB (Ty.ty x) "int" = some (isInt x) := by
  obtain ⟨d⟩ := x
  cases d <;> first | exact (by decide +kernel : kitB "NoneType" "int" = some false) | exact (by decide +kernel : kitB "bool" "int" = some true) | exact (by decide +kernel : kitB "int" "int" = some true) | exact (by decide +kernel : kitB "str" "int" = some false) | exact (by decide +kernel : kitB "list" "int" = some false) | exact (by decide +kernel : kitB "tuple" "int" = some false) | exact (by decide +kernel : kitB "dict" "int" = some false)
theorem isStr_ok (x : PD) : kitB (Ty.ty x) "str" = some (isStr x) := by
  obtain ⟨d⟩ := x
  cases d <;> first | exact (by decide +kernel : kitB "NoneType" "str" = some false) | exact (by decide +kernel : kitB "bool" "str" = some false) | exact (by decide +kernel : kitB "int" "str" = some false) | exact (by decide +kernel : kitB "str" "str" = some true) | exact (by decide +kernel : kitB "list" "str" = some false) | exact (by decide +kernel : kitB "tuple" "str" = some false) | exact (by decide +kernel : kitB "dict" "str" = some false)
theorem dpAll_length {K : PySem.W.Frag} {H : Hp} : ∀ {vs : List V} {ds : List PyData}, DpAll K H vs ds → vs.length = ds.length
  | _, _, .nil => rfl
  | _, _, .cons _ r => by rw [List.length_cons, List.length_cons, dpAll_length r]
theorem dpAll_get {K : PySem.W.Frag} {H : Hp} : ∀ {vs : List V} {ds : List PyData} {i : Nat} {d : PyData}, DpAll K H vs ds → ds[i]? = some d → ∃ v, vs[i]? = some v ∧ Dp K H v d
  | _, _, 0, _, .cons r _, e => by cases e; exact ⟨_, rfl, r⟩
  | _, _, i + 1, _, .cons _ t, e => dpAll_get (i := i) t e
  | _, _, 0, _, .nil, e => by cases e
  | _, _, i + 1, _, .nil, e => by cases e
def lenD : PD → Res Int
  | ⟨.list xs⟩ => .ok (xs.length : Int)
  | ⟨.tuple xs⟩ => .ok (xs.length : Int)
  | _ => .bad
instance : Len PD where
  len := lenD
  ok {K B H v x Q} r h := by
    obtain ⟨d⟩ := x
    cases r with
    | lst r1 r2 => exact ⟨_, .inl ⟨_, hide_sub.seq r1, rfl⟩, by rw [dpAll_length r2]; exact h⟩
    | tup r1 r2 => exact ⟨_, .inr ⟨_, SqT.same hide_sub r1, rfl⟩, by rw [dpAll_length r2]; exact h⟩
    | _ => exact h.elim
def idxD (x : PD) (i : Int) : Res PD := match x with
  | ⟨.list xs⟩ => (idxM xs i).bind fun d => .ok ⟨d⟩
  | ⟨.tuple xs⟩ => (idxM xs i).bind fun d => .ok ⟨d⟩
  | _ => .bad
def asB (x : PD) : Res Bool := match x with | ⟨.bool b⟩ => .ok b | _ => .bad
def asI (x : PD) : Res Int := match x with | ⟨.int b⟩ => .ok b | _ => .bad
def asS (x : PD) : Res Str := match x with | ⟨.str b⟩ => .ok b | _ => .bad
def isNon : PD → Bool | ⟨.none⟩ => true | _ => false
def eqvD (x y : PD) : Res Bool := guardR (SeqAt.shaped x.d && SeqAt.shaped y.d) (.ok (PyData.eqv x.d y.d))
section
variable {X : Cx} {W : WX} {g : Bool} {ρ : List Slot} {T A : Type} [Rp T] [Rp A] {a b e : Expr} {pos : Pos} {lv : Nat}
theorem e_toD [Dat T] {m : Res T} (h : EG X W g ρ e m) : EG X W g ρ e (m.bind fun x => .ok (PD.mk (Dat.toD x))) := by
  obtain ⟨t, p, q⟩ := h.ex
  exact ⟨t, p, fun S own σ H Q rs hp => q S own σ H Q rs (hp.bind.imp (fun x hx H' v s r => hx H' v s (Dat.dp r)) fun _ z => z)⟩
theorem e_toDp [Dat T] {x : T} (h : EG X W g ρ e (.ok x)) : EG X W g ρ e (.ok (PD.mk (Dat.toD x))) := e_toD h
theorem idx_get {α β : Type} {xs : List α} {i : Int} {f : α → Res β} {Q : β → Prop} {E : Ex → Prop} (h : Post ((idxM xs i).bind f) Q E) : ∃ (j : Nat) (y : α), ixN xs.length i = some j ∧ xs[j]? = some y ∧ Post (f y) Q E := by
  unfold idxM atI at h
  cases ej : ixN xs.length i with
  | none => rw [ej] at h; exact h.elim
  | some j =>
    rw [ej] at h
    cases ey : xs[j]? with
    | none => rw [Option.bind_some, ey] at h; exact h.elim
    | some y => rw [Option.bind_some, ey] at h; exact ⟨j, y, rfl, ey, h⟩
theorem e_ixD {m : Res PD} {n : Res Int} (h : EG X W g ρ a m) (h2 : EG X W true ρ b n) (hs : PlainIx b := by exact fun _ _ => rfl) : EG X W g ρ (.Subscript a b pos) (m.bind fun x => n.bind fun i => idxD x i) := by
  obtain ⟨ta, pa, qa⟩ := h.ex
  obtain ⟨tb, pb, qb⟩ := h2.ex
  refine ⟨_, pe_ix ix_seq pa pb hs, fun S own σ H Q rs hP => two_run (R' := fun v u H2 => rIx X.K v u H2 Q) qa qb rs hP fun x i v u H2 s r1 r2 hp => ?_⟩
  obtain ⟨d⟩ := x
  cases r2
  cases r1 with
  | lst r1 r3 =>
    obtain ⟨j, y, ej, ey, hq⟩ := idx_get (show Post ((idxM _ i).bind fun d => .ok (PD.mk d)) _ _ from hp)
    obtain ⟨w, e3, r4⟩ := dpAll_get r3 ey
    refine .inl ⟨_, _, i, w, rfl, rfl, hide_sub.seq r1, ?_, hq H2 w s r4⟩
    unfold atI
    rw [dpAll_length r3, ej]
    exact e3
  | tup r1 r3 =>
    obtain ⟨j, y, ej, ey, hq⟩ := idx_get (show Post ((idxM _ i).bind fun d => .ok (PD.mk d)) _ _ from hp)
    obtain ⟨w, e3, r4⟩ := dpAll_get r3 ey
    refine .inr (.inl ⟨_, _, i, w, rfl, rfl, SqT.same hide_sub r1, ?_, hq H2 w s r4⟩)
    unfold atI
    rw [dpAll_length r3, ej]
    exact e3
  | _ => exact hp.elim
theorem e_ixDp {x : PD} {i : Int} (h : EG X W g ρ a (.ok x)) (h2 : EG X W true ρ b (.ok i)) (hs : PlainIx b := by exact fun _ _ => rfl) : EG X W g ρ (.Subscript a b pos) (idxD x i) := e_ixD h h2 hs
theorem e_asB {m : Res PD} (h : EG X W true ρ e m) : EG X W g ρ e (m.bind asB) := by
  obtain ⟨t, p, q⟩ := h.ex
  refine ⟨t, p, fun S own σ H Q rs hp => q S own σ H Q rs (hp.bind.imp (fun x hx H' v s r => ?_) fun _ z => z)⟩
  obtain ⟨d⟩ := x
  cases r with
  | bl b => exact hx H' _ s rfl
  | _ => exact hx.elim
theorem e_asBp {x : PD} (h : EG X W true ρ e (.ok x)) : EG X W g ρ e (asB x) := e_asB h
theorem e_asI {m : Res PD} (h : EG X W true ρ e m) : EG X W g ρ e (m.bind asI) := by
  obtain ⟨t, p, q⟩ := h.ex
  refine ⟨t, p, fun S own σ H Q rs hp => q S own σ H Q rs (hp.bind.imp (fun x hx H' v s r => ?_) fun _ z => z)⟩
  obtain ⟨d⟩ := x
  cases r with
  | int b => exact hx H' _ s rfl
  | _ => exact hx.elim
theorem e_asIp {x : PD} (h : EG X W true ρ e (.ok x)) : EG X W g ρ e (asI x) := e_asI h
theorem e_asS {m : Res PD} (h : EG X W true ρ e m) : EG X W g ρ e (m.bind asS) := by
  obtain ⟨t, p, q⟩ := h.ex
  refine ⟨t, p, fun S own σ H Q rs hp => q S own σ H Q rs (hp.bind.imp (fun x hx H' v s r => ?_) fun _ z => z)⟩
  obtain ⟨d⟩ := x
  cases r with
  | str b => exact hx H' _ s rfl
  | _ => exact hx.elim
theorem e_asSp {x : PD} (h : EG X W true ρ e (.ok x)) : EG X W g ρ e (asS x) := e_asS h
theorem dp_non {K : PySem.W.Frag} {H : Hp} {v : V} {x : PD} (h : Dp K H v x.d) : decide (v = .non) = isNon x := by
  obtain ⟨d⟩ := x
  cases h <;> rfl
theorem e_isND {m : Res PD} {j p2} (h : EG X W true ρ a m) : CJ X W ρ .Is a (.Constant .none j p2) (m.bind fun x => .ok (isNon x)) := by
  obtain ⟨ta, pa, qa⟩ := h.ex
  refine ⟨_, _, _, op_isN, nomark _, pa, pe_non, fun S own σ H Q R rs hp hR => one_run (R' := fun v H2 => (V.non = .non ∧ R (.bl (decide (v = .non))) H2)) qa rs hp fun x v H2 s r1 hq => ⟨rfl, ?_⟩⟩
  rw [dp_non r1]
  exact hR _ _ (hq H2 s)
theorem e_isNDp {x : PD} {j p2} (h : EG X W true ρ a (.ok x)) : CJ X W ρ .Is a (.Constant .none j p2) (.ok (isNon x)) := e_isND h
theorem e_isnotND {m : Res PD} {j p2} (h : EG X W true ρ a m) : CJ X W ρ .IsNot a (.Constant .none j p2) (m.bind fun x => .ok (!isNon x)) := by
  obtain ⟨ta, pa, qa⟩ := h.ex
  refine ⟨_, _, _, op_notN, nomark _, pa, pe_non, fun S own σ H Q R rs hp hR => one_run (R' := fun v H2 => (V.non = .non ∧ R (.bl (!decide (v = .non))) H2)) qa rs hp fun x v H2 s r1 hq => ⟨rfl, ?_⟩⟩
  rw [dp_non r1]
  exact hR _ _ (hq H2 s)
theorem e_isnotNDp {x : PD} {j p2} (h : EG X W true ρ a (.ok x)) : CJ X W ρ .IsNot a (.Constant .none j p2) (.ok (!isNon x)) := e_isnotND h
theorem e_eqvD {m n : Res PD} (C : CtxOk X W lv) (h : EG X W true ρ a m) (h2 : EG X W true ρ b n) : CJ X W ρ .Eq a b (m.bind fun x => n.bind fun y => eqvD x y) :=
  e_cmpR (f := eqvD) (op_eqD C.room.units) (nomark _) h h2 (fun _ _ H x y v u Q r1 r2 hq => by
    obtain ⟨h1, hq⟩ := hq.guard
    rw [Bool.and_eq_true] at h1
    exact ⟨_, _, dp_same hide_sub r1, dp_same hide_sub r2, h1.1, h1.2, hq⟩)
theorem e_eqvDp {x y : PD} (C : CtxOk X W lv) (h : EG X W true ρ a (.ok x)) (h2 : EG X W true ρ b (.ok y)) : CJ X W ρ .Eq a b (eqvD x y) := e_eqvD C h h2
end
section
variable {P : Program} {w : World} {K : PySem.W.Frag} {mg : Str → Option Value} {base : Heap} {x qual : Str} {params : Arguments} {body : List Stmt} {scope : Scope} {kws : List (Str × V)} {fd : FuncData} {ps : List Str} {k : Nat} {A : Type} {as : A → List AV}
/-- where nothing is promised -/
theorem fok_bad {R : Type} [Rp R] {f : A → Res R} (F : FunD K x qual params body scope [] kws (He.ga K x) fd) (hgl : mg x = some (.ref (He.ga K x))) (hb : Binds K fd ps []) (hf : ∀ u, f u = .bad) : FOk P w K mg base x k (spOf K as f) := by
  have no : ∀ vs H Q E, ¬ spOf K as f vs H Q E := fun vs H Q E h => by
    obtain ⟨S, u, _, _, hp⟩ := h
    rw [hf u] at hp
    exact hp
  exact ⟨⟨fd, ps, ⟨fun vs H Q E h => (no _ _ _ _ h).elim, fun A outer s H args us vs Q E _ _ _ _ h => (no _ _ _ _ h).elim⟩, hb⟩, F.kp, hgl⟩
end
end Py

set_option Elab.async false
set_option linter.all false
set_option maxRecDepth 100000
set_option maxHeartbeats 4000000
namespace Py
open PySem PySem.Spec PyProof.Rows L2
open Rp (rp)
/-! ### facts of the top: the layer's, and a boolean of one's own -/
def obsP (fb : PySem.W.Frag → Bool) (fa : List He.Fa) (fn : List He.DefD) (K : PySem.W.Frag) : He.AlD := (fb K && (He.obsD fa fn K).1, (He.obsD fa fn K).2)
def obsPG (n : Nat) (fb : PySem.W.Frag → Bool) (fa : List He.Fa) (fn : List He.DefD) (g : Addr → Option Obj) : He.AlD := obsP fb fa fn (He.frG g (He.asD g n))
structure SaysP (fb : PySem.W.Frag → Bool) (fa : List He.Fa) (fn : List He.DefD) (K : PySem.W.Frag) : Prop where
  eq : obsP fb fa fn K = He.valD fn
def hookP (n : Nat) (fb : PySem.W.Frag → Bool) (fa : List He.Fa) (fn : List He.DefD) : PySem.W.Hook where
  α := He.AlD
  obs := fun s => obsPG n fb fa fn s.heap.get?
  val := fun _ => He.valD fn
  says := fun _ h => ∃ K : PySem.W.Frag, K.In h ∧ SaysP fb fa fn K
  of := fun _ _ e => ⟨_, He.frG_in, ⟨e⟩⟩
  keeps := fun _ _ _ ⟨K, hK, c⟩ k => ⟨K, PySem.W.Frag.In.keeps hK k, c⟩
theorem obsPG_eq {n : Nat} {fb : PySem.W.Frag → Bool} {fa : List He.Fa} {fn : List He.DefD} {g : Addr → Option Obj} {s : Shared} (h : ∀ a, g a = s.heap.get? a) : obsPG n fb fa fn g = (hookP n fb fa fn).obs s := by
  have e : g = s.heap.get? := funext h
  rw [e] <;> rfl
theorem SaysP.own {fb : PySem.W.Frag → Bool} {fa : List He.Fa} {fn : List He.DefD} {K : PySem.W.Frag} (c : SaysP fb fa fn K) : fb K = true :=
  (He.ba (show (fb K && (He.obsD fa fn K).1) = true from congrArg (fun z : He.AlD => z.1) c.eq)).1
theorem SaysP.says {fb : PySem.W.Frag → Bool} {fa : List He.Fa} {fn : List He.DefD} {K : PySem.W.Frag} (c : SaysP fb fa fn K) : He.SaysD fa fn K := by
  have h1 := (He.ba (show (fb K && (He.obsD fa fn K).1) = true from congrArg (fun z : He.AlD => z.1) c.eq)).2
  have h2 : (obsP fb fa fn K).2 = (He.valD fn).2 := congrArg (fun z : He.AlD => z.2) c.eq
  exact Prod.ext h1 h2
/-- a name of the top that is bound to a builtin -/
def bltB (x : Str) (b : String) (K : PySem.W.Frag) : Bool := He.eqO (PySem.W.nsIn K mainGlobals x) (some (some (.builtin b)))
theorem bltB_ok {K : PySem.W.Frag} {h : Heap} {mg : Str → Option Value} (X : K.In h) (G : h.Ns mainGlobals mg) {x : Str} {b : String} (c : bltB x b K = true) : mg x = some (.builtin b) := PySem.W.mg_of X G (He.eqO_ok c)
/-- the law's def, its frame's names in sight -/
theorem fn_data {P : Program} {w : World} {K : PySem.W.Frag} {mg : Str → Option Value} {base : Heap} {x qual : Str} {params : Arguments} {body : List Stmt} {scope : Scope} {kws : List (Str × V)} {fd : FuncData} {N ps : List Str} {k : Nat} {A : Type} {as : A → List AV}
    {R : Type} [Rp R] {f : A → Res R} {ρ0 : A → List Slot} (F : FunD K x qual params body scope [] kws (He.ga K x) fd) (S : FnScope N ps scope) (hl : ∀ u, (as u).length = ps.length := by intro _; rfl)
    (h0 : ∀ u, ρ0 u = (as u).map AV.slot ++ List.replicate (N.length - ps.length) .non := by intro _; rfl)
    (d : ∀ cdv A outer s H E, CtxOk (fcx P w K mg base N qual scope (He.ga K x) cdv A outer s H E) (fun c d _ H' => E c d H') k → ∀ u, SR (fcx P w K mg base N qual scope (He.ga K x) cdv A outer s H E) (fun c d _ H' => E c d H') none (ρ0 u) body (retD R) (f u)) :
    FnOk P w K mg base (L2N.CX P w) (k + 1) (He.ga K x) fd ps (spOf K as f) := by
  refine FunD.ok F S (fun vs H Q E h => ?_) (fun cdv A outer s H vs Q E hr h => ?_)
  · obtain ⟨S', u, _, r, _⟩ := h
    rw [r.length, hl]
  · obtain ⟨S', u, hd, r, hp⟩ := h
    obtain ⟨t, p, q⟩ := (d cdv A outer s H E (fctx S hr) u).ex
    refine ⟨t, p, q S' [] _ H _ ?_ (hp.imp (fun y hy v σ' H' own' x' _ z => hy H' v x'.nil_same (Rp.mono (hide_mono fun b hb => List.mem_append_left _ hb) z)) fun e he σ' H' own' c d x' _ z => ?_)⟩
    · rw [h0, ← hl u, ← r.length]
      exact rs_start r hd
    · obtain ⟨z1, dx, fs, z2, z3, z4⟩ := z
      refine he H' c d x'.nil_same ⟨z1, dx, fs, z2, hide_mono (fun b hb => List.mem_append_left _ hb) _ _ z3, Paired.imp2 z4 fun a b z => ⟨z.1, ?_⟩⟩
      exact (dp_same (hide_mono fun b hb => List.mem_append_left _ hb) z.2)
/-- the walk of a law of one number list, of bounded digits -/
theorem walk_py {l : PySem.W.OpenLaw} {n k : Nat} {q : Program} {loose : List Str} {XP : (Str → Option Value) → Heap → Prop} {YP : World → Heap → Prop} {d : DefRec} {x : Str} {f : Scr × Unit → Res Bool}
    (hn : l.most = some n) (hn2 : n ≤ sizeLine) (hdf : d.params.defaults = []) (hr : Room k callerA)
    (hf : ∀ ns : List Int, ns.length ≤ n → (∀ z ∈ ns, Builtin.Int.intBits z ≤ 1048576) → f (⟨ns⟩, ()) = .ok true)
    (F : ∀ (w : World) (mg : Str → Option Value) (fa : Addr) (h : Heap), YP w h → h.Ns mainGlobals mg → mg d.name = some (.ref fa) →
      ∃ (K : PySem.W.Frag) (fd : FuncData), K.In h ∧ (∀ (s : Shared) (u : Value), BindsTo s fd ⟨[u], []⟩ [(x, u)]) ∧
        ∀ base : Heap, K.In base → base.Ns mainGlobals mg → FnOk l.prog w K mg base (L2N.CX l.prog w) k fa fd [x] (spOf K (asC asN) f)) :
    PySem.W.WalkO q loose XP YP l.row.toRowW d [] (fun f vs => PySem.call f vs) := by
  refine Att.attach_callB hn hdf fun w s₀ s₁ mg mb fa o pm cd doc a vs ns G Y ho hd hcd hmg hobj hints hlen hbits hg => ?_
  obtain ⟨K, fd, KX, hb, hF⟩ := F w mg fa _ Y G.T.g hmg
  refine law_call KX G.T.g G.T.b G.T.builtins G.T.nolimit hg hobj hints (Nat.le_trans hlen hn2) hr hF hb (fun H hO hS => law_sp (hf ns hlen hbits) hS) fun H e s' h => ?_
  obtain ⟨_, _, _, _, _, _, _, _, _, _, _, _, z⟩ := h
  exact z.elim
end Py

set_option Elab.async false
set_option linter.all false
set_option maxRecDepth 100000
set_option maxHeartbeats 4000000
/-! Py, part X: own errors: classes over ValueError whose __init__ says super().__init__(..), then self.f = .. -/
namespace Py
open PySem PySem.Spec L2
open Rp (rp)
/-- what the written part says of such a class and its __init__ -/
structure SupC (P : Program) (K : PySem.W.Frag) (C fI : Addr) (qual : Str) (params : Arguments) (body : List Stmt) (scope : Scope) (fd : FuncData) : Prop where
  ox : OexC K C
  iC : PySem.W.findIn K (.ref C) "__init__" = some (some (.ref fI))
  tI : PySem.W.typeIn K (.ref fI) = some (.type "function")
  fn : ∃ oc od osl dV kV doc pm an ct cda cc, fd = PySem.W.ksFn "__init__" qual params body scope dV kV doc pm an (.ref cda) ct cc ∧ K.lookup fI = some ⟨oc, od, .func fd, osl⟩ ∧ PySem.W.codeIn K (.ref cda) qual = true ∧
    (∃ ccl cdd vs ccs file tf, K.lookup cda = some ⟨ccl, cdd, .fields vs, ccs⟩ ∧ vs[2]? = some (.str file tf) ∧ ((P.main.file : Str) == file) = true) ∧ ∃ cl cld csl, K.lookup cc = some ⟨cl, cld, .cell (some (.ref C)), csl⟩
  su : PySem.W.ks_superIn K C C "__init__" = some (some (.builtin "ValueError.__init__"))
  sv : PySem.W.subIn K (.ref C) (.type "ValueError") = some true
  sC : PySem.W.mroIn K C (.ref C) = some true
  op : PySem.W.nsIn K cStatics "thirdparty.any" = some none
  ns : PySem.W.nsIn K mainGlobals "super" = some none
/-- the text's scope of such an __init__ -/
structure SupS (P : Program) (params : Arguments) (scope : Scope) (p : Str) : Prop where
  kind : scope.kind = .function
  co : scope.isCoroutine = false
  gen : scope.isGenerator = false
  cell : ∀ x ∈ scope.names, x.2 ≠ .cell
  free : ∀ x ∈ scope.names, x.2 = .free → x.1 = "__class__"
  self : scope.names.lookup ("self" : Str) = some .local
  par : scope.names.lookup p = some .local
  sup : scope.names.lookup ("super" : Str) = some .globalImplicit
  cls : scope.names.lookup ("__class__" : Str) = some .free
  head : ∃ ar, (params.posonlyargs ++ params.args).head? = some ar ∧ ar.arg = "self"
  nd : ("self" : Str) ≠ p
  top : (P.main.scope.names.lookup ("super" : Str)).isSome = false
/-- the context of that def -/
def cxS (CX : CXT) (P : Program) (w : World) (K : PySem.W.Frag) (mg : Str → Option Value) (base : Heap) (N : List Str) (qual : Str) (scope : Scope) (f : Addr) (cd : Value) (cc : Addr) (A : Around) (outer : List Env) (s : Shared) (H : Hp) (E : XK) : Cx where
  prog := P
  w := w
  K := K
  mg := mg
  base := base
  A := A.deeper (PySem.W.ksEnv qual scope s.heap.objs.size f cd cc)
  N := N
  s_0 := s
  H_0 := H
  env := PySem.W.ksEnv qual scope s.heap.objs.size f cd cc
  outer := outer
  stack := PySem.W.ksEnv qual scope s.heap.objs.size f cd cc :: outer
  ex := []
  calm := true
  fn := fun _ => false
  pn := []
  xe := fun e s' => wpAny (model P w) (A.deeper (PySem.W.ksEnv qual scope s.heap.objs.size f cd cc)) (leaving (PySem.W.ksEnv qual scope s.heap.objs.size f cd cc) e) (fun _ s'' => CX outer H s E e s'') (fun e' s'' => CX outer H s E e' s'') s'
section
variable {CX : CXT} {P : Program} {w : World} {K : PySem.W.Frag} {mg : Str → Option Value} {base : Heap} {qual : Str} {params : Arguments} {body : List Stmt} {scope : Scope} {p : Str} {fd : FuncData} {C fI : Addr}
theorem cls_lookup {x : Str} {cc c : Addr} (h : List.lookup x [(("__class__" : Str), cc)] = some c) : c = cc ∧ x = "__class__" := by
  by_cases e : x = "__class__"
  · subst e
    simp [List.lookup] at h
    exact ⟨h.symm, rfl⟩
  · have e2 : (x == ("__class__" : Str)) = false := by simpa using e
    simp [List.lookup, e2] at h
theorem inv_sup {A : Around} {outer : List Env} {s : Shared} {H : Hp} {E : XK} {f cc a : Addr} {cd u : Value} {y : V} {h₁ : Heap} {tk : Nat} {oc : Obj} {vc : Option Value} (S : SupS P params scope p) (hd : A.handled = none) (e0 : Env0 P w K mg base A outer s H)
    (hcc : base.get? cc = some oc) (hcd : oc.data = .cell vc) (ry : RelV y u) (hns : h₁.Ns s.heap.objs.size (fun x => (List.zip [("self" : Str), p] [Value.ref a, u]).reverse.lookup x)) (hk : ∀ b o, s.heap.get? b = some o → h₁.get? b = some o) :
    Inv (cxS CX P w K mg base ["self", p] qual scope f cd cc A outer s H E) [] (start ["self", p] [.ref a, y]) H { s with heap := h₁, toks := tk } := by
  have noA : ∀ b : Addr, b ∉ (cxS CX P w K mg base ["self", p] qual scope f cd cc A outer s H E).ex := fun b z => absurd (show b ∈ ([] : List Addr) from z) (by simp)
  have c1 := e0.bs cc oc hcc
  refine ⟨⟨e0.mod, S.kind, rfl, rfl, Nat.le_refl _, fun y z c h1 h2 => ?_, fun y hy => ?_, fun y c z h => ?_, fun _ => hd, Around.frames_deeper e0.frames, .inr ⟨rfl, rfl⟩, fun b z => absurd z (noA b), e0.bs, e0.bsz, fun b _ _ => noA b, fun b z => absurd z (noA b), e0.funs, e0.frf⟩,
    rfl, e0.bare, Un.kept hk, ⟨_, hns, fun i x v h1 h2 h3 => ?_⟩, fun y c h => ?_, e0.hok.fresh (Nat.le_refl _), fun y c h => ?_, fun p hp => absurd (show p ∈ ([] : List (Addr × Obj)) from hp) (by simp), e0.hok.kept hk, rfl⟩
  · exact (cls_lookup h1).2.trans (cls_lookup h2).2.symm
  · have hy : scope.names.lookup y = some .cell ∨ scope.names.lookup y = some .free := hy
    rcases hy with hy | hy
    · exact absurd rfl (S.cell _ (PySem.mem_of_lookup hy))
    · have e := S.free _ (PySem.mem_of_lookup hy) rfl
      have e' : y = "__class__" := e
      subst e'
      exact ⟨cc, by show List.lookup ("__class__" : Str) [(("__class__" : Str), cc)] = some cc; simp [List.lookup]⟩
  · exact absurd (show false = true from z) (by decide)
  · match i, h1, h2 with
    | 0, h1, h2 =>
      have e1 : ("self" : Str) = x := Option.some.inj h1
      have e2 : some (V.ref a) = some v := Option.some.inj h2
      have e3 : V.ref a = v := Option.some.inj e2
      subst e1
      subst e3
      refine ⟨.ref a, rfl, .inl ⟨S.self, ?_⟩⟩
      have z : (("self" : Str) == p) = false := by simpa using S.nd
      show List.lookup ("self" : Str) [(p, u), ("self", Value.ref a)] = _
      rw [List.lookup, z]
      simp [List.lookup]
    | 1, h1, h2 =>
      have e1 : p = x := Option.some.inj h1
      have e2 : some y = some v := Option.some.inj h2
      have e3 : y = v := Option.some.inj e2
      subst e1
      subst e3
      refine ⟨u, ry, .inl ⟨S.par, ?_⟩⟩
      show List.lookup p [(p, u), ("self", Value.ref a)] = _
      simp [List.lookup]
    | n + 2, h1, h2 =>
      have h1' : ([] : List Str)[n]? = some x := h1
      simp at h1'
  · obtain ⟨e, _⟩ := cls_lookup h
    subst e
    exact ⟨vc, oc, hk _ _ c1.1, hcd⟩
  · obtain ⟨e, _⟩ := cls_lookup h
    subst e
    exact c1.2

/-- the def: super().__init__(..), then self.f = p -/
theorem sup_ok {a0 : Expr} {as : List Expr} {fld : Str} {p0 p1 p2 p3 p4 p5 p6 p7 p8 : Pos} {ta : TA} {k : Nat} {pl : Sem Bool}
    (T : SupC P K C fI qual params [.Expr (.Call (.Attribute (.Call (.Name "super" p0) [] [] p1) "__init__" p2) (a0 :: as) [] p3) p4, .Assign [.Attribute (.Name "self" p5) fld p6] (.Name p p8) p7] scope fd) (S : SupS P params scope p)
    (hfld : PySem.W.findIn K (.ref C) fld = some none) (hpd : (p == ("__debug__" : Str)) = false) (hpc : (p == ("__classdict__" : Str)) = false)
    (ha : ∀ f cd cc A outer s H E, PA (cxS CX P w K mg base ["self", p] qual scope f cd cc A outer s H E) (a0 :: as) ta)
    (hcl : ∀ env : Env, eval (.Call (.Attribute (.Call (.Name "super" p0) [] [] p1) "__init__" p2) (a0 :: as) [] p3) env = (do
      let ov ← attributeBase (.Call (.Name "super" p0) [] [] p1) "__init__" env (eval (.Call (.Name "super" p0) [] [] p1) env)
      standAt p2.atName
      let (f, first) ← holding [ov] (getMethod ov "__init__" pl)
      callWith p3 f first (backTo p3 (starEach (a0 :: as) env)) []))
    (hst : ∀ env : Env, starEach (a0 :: as) env = (false, eval a0 env) :: starEach as env) (hpl : ∀ env : Env, (backTo p3 (starEach as env)).any (·.1) = false)
    (hsw0 : ∀ (n : Nat) (env : Env), swapsWith (.Call (.Attribute (.Call (.Name "super" p0) [] [] p1) "__init__" p2) (a0 :: as) [] p3) none n env = pure false)
    (hsw : ∀ env : Env, swapsWith (.Name p p8) (some (.Attribute (.Name "self" p5) fld p6)) p7.line env = pure false) :
    FnOk P w K mg base CX (k + 1) fI fd ["self", p] (fun vs H Q _ => ∃ a y, vs = [.ref a, y] ∧ H a = some (exo a C none) ∧ (∀ Q', (∀ ms : List V, ms.length ≤ 1000 → Q' ms H) → ta (start ["self", p] [.ref a, y]) H Q') ∧
      ∀ dx, H dx = none → dx ≠ a → Q .non (upd (upd H dx (exd dx [(fld, y)])) a (exo a C (some dx)))) := by
  refine ⟨fun vs H Q E h => ?_, fun A outer s H args us vs Q E hr e0 hb r hsp => ?_⟩
  · obtain ⟨a, y, rfl, _⟩ := h
    rfl
  obtain ⟨a, y, rfl, ea, hta, hQ⟩ := hsp
  obtain ⟨u, rfl, ry⟩ : ∃ u, us = [.ref a, u] ∧ RelV y u := by
    cases r with
    | cons r1 r2 =>
      cases r2 with
      | cons r3 r4 =>
        cases r4
        have r1' : _ = Value.ref a := r1
        subst r1'
        exact ⟨_, rfl, r3⟩
  have KX : K.In s.heap := e0.mod.kin.keeps fun b o e => (e0.bs b o e).1
  have lim : s.heap.NoLimit := e0.mod.nolimit.keeps fun b o e => (e0.bs b o e).1
  obtain ⟨oc, od, osl, dV, kV, doc, pm, an, ct, cda, cc, rfl, lk, hcd, ⟨ccl, cdd, vs, ccs, file, tf, hco, hvs, hfile⟩, cl, cld, csl, hcell⟩ := T.fn
  obtain ⟨ar, har, hself⟩ := S.head
  refine ks_codeAny_call_defAt (fd := PySem.W.ksFn "__init__" qual params _ scope dV kV doc pm an (.ref cda) ct cc) (body := _) (binds := List.zip [("self" : Str), p] [Value.ref a, u]) hr.depth (KX _ _ lk) rfl lim (PySem.W.codeRec_of KX hcd) rfl hb S.cell (fun z hz => ?_) (fun h₁ hns hk₁ => ?_) S.co S.gen S.kind
  · rcases List.mem_cons.mp hz with rfl | hz
    · exact S.self
    · rcases List.mem_cons.mp hz with rfl | hz
      · exact S.par
      · cases hz
  have I : Inv (cxS CX P w K mg base ["self", p] qual scope fI (.ref cda) cc A outer s H E) [] (start ["self", p] [.ref a, y]) H { s with heap := h₁, toks := s.toks + (List.zip [("self" : Str), p] [Value.ref a, u]).length } :=
    inv_sup S hr.hd e0 (e0.mod.kin _ _ hcell) rfl ry hns hk₁
  have X1 : K.In h₁ := I.kIn
  obtain ⟨mb, hb1, hb2⟩ := e0.mod.blt
  have bk : ∀ b o, base.get? b = some o → h₁.get? b = some o := I.bk
  obtain ⟨nm, q, N, bs, bm, sn, sub, ab, col, dd, k0, k1, k2, k3, k5, hC, hbm⟩ := T.ox.cls
  obtain ⟨t1, hx⟩ := exo_at I.hok ea
  refine ks_wpAt_execs_cons (ks_wpAt_Expr_any (ks_wpAt_MethodCall (pl := pl) ?_ (hcl _)) (by show (scope.kind == .module && _) = false; rw [S.kind]; rfl) (hsw0 _ _))
  refine ks_wpAt_super_base (env := PySem.W.ksEnv qual scope s.heap.objs.size fI (.ref cda) cc) S.sup S.cls rfl rfl (X1 _ _ lk) rfl har rfl (X1 _ _ hco) rfl hvs hfile S.top ?_
  refine PySem.W.ks_loadName_global S.kind S.sup (PySem.Calls.loadGlobal_builtin (env := PySem.W.ksEnv qual scope s.heap.objs.size fI (.ref cda) cc) (e0.mod.glob.keeps bk) (PySem.W.mg_none_of e0.mod.kin e0.mod.glob T.ns) (hb1.keeps bk) ((hb2 _ (by decide +kernel)).trans PyProof.Rows.Boot.«super») ⟨rfl, ?_⟩)
  refine wpAny_loadName_free S.kind S.cls rfl ⟨_, X1 _ _ hcell, rfl⟩ ?_
  rw [hself]
  refine wpAny_loadName_local S.kind S.self hns (v := .ref a) ?_ ?_
  · have z : (("self" : Str) == p) = false := by simpa using S.nd
    show List.lookup ("self" : Str) [(p, u), ("self", Value.ref a)] = _
    rw [List.lookup, z]
    simp [List.lookup]
  refine ks_wpAny_isType_cls (X1 _ _ hC) rfl ⟨rfl, ?_⟩
  refine ks_wpAny_call_super (X1 _ _ hC) rfl hx rfl (fun c e => by cases e) (PySem.W.looks_mroIn X1 T.sC) (fun h2 hso hk2 => ?_)
  have X2 : K.In h2 := X1.keeps hk2
  have nC : a ≠ C := fun z => by
    have z1 := X1 _ _ hC
    rw [← z, hx] at z1
    cases z1
  have hcl2 : PySem.W.clsIn K C = some { name := nm, bases := bs, mro := .ref C :: bm, ns := N, qualname := q, hasDict := true, slotNames := sn, subclasses := sub, abstract := ab, collection := col, hasDel := false } := by unfold PySem.W.clsIn; rw [hC] <;> rfl
  have hx2 := hk2 _ _ hx
  have hsu : PySem.W.alongIn K "__init__" (((Value.ref C :: bm).dropWhile (· != .ref C)).drop 1) = some (some (.builtin "ValueError.__init__")) := by
    have z := T.su
    unfold PySem.W.ks_superIn at z
    rw [hcl2] at z
    exact z
  refine PySem.W.kxs_getMethod PySem.W.kxs_ValueError hso (PySem.W.looks_opaque X2 T.op) (l₀ := .ref C :: bm) ?_ rfl X2 hsu ?_ nC rfl ?_
  · exact fun A Q E s k q => wpAny_bind ((PySem.W.looks_clsIn X2 hcl2) A _ E s k (wpAny_pure q))
  · exact (PySem.W.InstAt.type (ox := { cls := .ref C, dict := none, data := .fields #[.ref t1, .none, .none, .none, .bool false, .none] }) (od := none) ⟨hx2, rfl, rfl, trivial⟩).andThen (PySem.W.looks_subIn X2 T.sv)
  have hk3 : ∀ b o, h₁.get? b = some o → (h2.push (PySem.W.kxs_mw "ValueError.__init__" a)).get? b = some o := fun b o e => Heap.get?_push_of_some _ (hk2 b o e)
  have I2 := I.kept (t' := s.toks) hk2
  have I3 := (I.kept (t' := s.toks + (List.zip [("self" : Str), p] [Value.ref a, u]).length + 1) hk3).pins_of (pins' := [(h2.objs.size, PySem.W.kxs_mw "ValueError.__init__" a)]) fun z hz => by
    cases List.mem_singleton.mp hz
    refine ⟨Heap.get?_push_at rfl rfl, I2.hok.fresh (Nat.le_refl _), Nat.ne_of_gt I2.lt, I2.nofs (Nat.le_refl _), fun v z => by cases z⟩
  show wpAny _ _ (callWith p3 (.ref h2.objs.size) [] (backTo p3 (starEach (a0 :: as) (PySem.W.ksEnv qual scope s.heap.objs.size fI (.ref cda) cc))) []) _ _ _
  have run := (ha fI (.ref cda) cc A outer s H E).run p3 _ _ _ H (fun ms H1 => ms.length ≤ 1000 ∧ H1 = H) I3 (hta _ fun ms hm => ⟨hm, rfl⟩)
  have run' : wpAny _ _ (spliced (backTo p3 (starEach (a0 :: as) (PySem.W.ksEnv qual scope s.heap.objs.size fI (.ref cda) cc)))) _ _ _ := run
  rw [hst] at run' ⊢
  refine PySem.W.kxs_callWith (i := "ValueError.__init__") (x := a) (by show (false || (backTo p3 (starEach as _)).any (·.1)) = false; rw [hpl]; rfl) ?_
  refine PySem.Calls.evalArgs_plain (wpAny_mono run' (fun us1 s1 h1 => ?_) fun _ _ z => z)
  obtain ⟨ms, H1, J1, rm, hml, rfl⟩ := h1
  have hu : s1.heap.get? h2.objs.size = some (PySem.W.kxs_mw "ValueError.__init__" a) := (J1.pin _ (List.mem_append_right _ (List.mem_singleton.mpr rfl))).1
  refine ⟨hu, ?_⟩
  have hlen : us1.length ≤ sizeLine := by
    rw [← Paired.length rm, sizeLine_eq]
    omega
  obtain ⟨t2, hx3⟩ := exo_at J1.hok ea
  have X3 : K.In s1.heap := J1.kIn
  obtain ⟨hp, g, dr, tk, os⟩ := s1
  show wpAny _ _ (call (.ref h2.objs.size) us1) _ _ _
  refine wpAny_call (codeAny_of_tree ?_)
  show wpAny _ (A.deeper _).in1 (callAny (.ref h2.objs.size) ⟨us1, []⟩) _ _ _
  simp only [callAny]
  refine wpAny_bind (wpAny_load hu ?_)
  simp only [PySem.W.kxs_mw, show (Value.type "method-wrapper" == Value.type "method" || Value.type "method-wrapper" == Value.type "builtin_function_or_method" || Value.type "method-wrapper" == Value.type "method-wrapper") = true by decide, if_true]
  refine PySem.W.KFB.if_so (by decide) ?_
  refine wpAny_bind (PySem.W.check_bound_init F.excBase_ValueError.toExcCallFacts (X3 _ _ hC) hx3 rfl ?_)
  refine wpAny_bind (wpAny_pure (wpAny_pure ?_))
  refine ⟨plainId_quiet F.excBase_ValueError.init.plain _, codeAny_builtin F.excBase_ValueError.initEntry ?_⟩
  refine PySem.W.exc_init_tree (cls := .ref C) (t0 := t2) (dv := none) (c2 := .none) (c3 := .none) (b4 := .bool false) hx3 hlen (fun h4 k4 e4 _ => ?_)
  have J4 := J1.write (t' := tk) (x := a) (e := a) (o := exo a C none) (by rw [ea]; exact True.intro) (.inl rfl) k4 ⟨_, e4⟩ (exo_ok e4)
  have eu : upd H1 a (exo a C none) = H1 := by
    funext b
    by_cases hb : b = a
    · rw [hb, upd_same, ea]
    · rw [upd_ne hb]
  rw [eu] at J4
  have J5 := J4.pins_of (pins' := []) fun _ z => nomatch z
  have nd0 : List.Nodup [("self" : Str), p] := List.nodup_cons.mpr ⟨fun z => S.nd (List.mem_singleton.mp z), List.nodup_cons.mpr ⟨(fun z => nomatch z), List.nodup_nil⟩⟩
  have ps : PSs (cxS CX P w K mg base ["self", p] qual scope fI (.ref cda) cc A outer s H1 E) [.Assign [.Attribute (.Name "self" p5) fld p6] (.Name p p8) p7] _ :=
    pss_one (ps_ost (pe_var (i := 0) rfl (.inl S.self)) (pe_var (i := 1) rfl (.inl S.par) hpd hpc) (hsw _))
  have fin := ps.run [] _ (start ["self", p] [.ref a, y]) H1 { nx := fun _ H' => Q .non H', rt := fun _ _ => False } J5 ⟨y, rfl, .ref a, rfl, a, C, rfl, T.ox, hfld, .inl ⟨ea, hQ⟩⟩
  have fin' : wpAny _ (A.deeper _) (execs [.Assign [.Attribute (.Name "self" p5) fld p6] (.Name p p8) p7] _) _ _ _ := fin
  refine wpAt_of_wpAny (wpAny_mono fin' (fun fl s' hs => ?_) fun _ _ z => z)
  cases fl with
  | next =>
    obtain ⟨σ', H', J, q⟩ := hs
    exact ⟨.non, H', J.os, J.bare, J.base, J.hok, rfl, q⟩
  | ret u =>
    obtain ⟨v, σ', H', J, rv, q⟩ := hs
    exact q.elim
  | brk =>
    obtain ⟨_, _, _, q⟩ := hs
    exact False.elim q
  | cont =>
    obtain ⟨_, _, _, q⟩ := hs
    exact False.elim q
end
end Py

set_option Elab.async false
set_option linter.all false
set_option maxRecDepth 100000
set_option maxHeartbeats 4000000
/-! Py, part X2: own errors: the facts of the top, raising. -/
namespace Py
open PySem PySem.Spec L2
open Rp (rp)
/-! ### facts -/
def oexB (K : PySem.W.Frag) (C : Addr) : Bool := match K.lookup C with
  | some ⟨.type "type", _, .cls cd, sl⟩ => (match cd.mro, sl.toList with
    | .ref C' :: bm, [_, _, _, _, some (.builtin n), _] => C' == C && n == "ValueError.__new__" && !cd.hasDel && cd.hasDict && PySem.HandSPX.refsVE bm
    | _, _ => false)
  | _ => false
theorem oexB_ok {K : PySem.W.Frag} {C : Addr} (q : oexB K C = true) : ∃ nm q N bs bm sn sub ab col dd k0 k1 k2 k3 k5, K.lookup C = some (excClassObj nm q C N bs bm true sn sub ab col dd k0 k1 k2 k3 k5 "ValueError.__new__") ∧ PySem.HandSPX.refsVE bm = true := by
  unfold oexB at q
  split at q
  · rename_i dd cd sl ho
    split at q
    · rename_i C' bm k0 k1 k2 k3 n k5 hm hs
      simp only [Bool.and_eq_true, beq_iff_eq, Bool.not_eq_true'] at q
      obtain ⟨⟨⟨⟨rfl, rfl⟩, hdel⟩, hdi⟩, ht⟩ := q
      obtain ⟨nm, bs, mro, ns, qn, hd, sn, sub, ab, col, del⟩ := cd
      dsimp only at hm hdel hdi
      subst hm hdel hdi
      have hsl : sl = #[k0, k1, k2, k3, some (.builtin "ValueError.__new__"), k5] := by
        obtain ⟨l⟩ := sl
        simp only at hs
        rw [hs]
      subst hsl
      exact ⟨nm, qn, ns, bs, bm, sn, sub, ab, col, dd, k0, k1, k2, k3, k5, ho, ht⟩
    · cases q
  · cases q
/-- the __init__'s place -/
def initA (K : PySem.W.Frag) (C : Addr) : Addr := match PySem.W.findIn K (.ref C) "__init__" with
  | some (some (.ref f)) => f
  | _ => 0
abbrev SupW : Type := Option (Str × Str × Arguments × FuncBody × Scope × Addr × Addr)
def supW (K : PySem.W.Frag) (C : Addr) : SupW := match K.lookup (initA K C) with
  | some ⟨_, _, .func fd, _⟩ => some (fd.name, fd.qualname, fd.params, fd.body, fd.scope, fd.globals, fd.builtins)
  | _ => none
def supB (P : Program) (K : PySem.W.Frag) (x fld qual : Str) : Bool :=
  oexB K (He.ga K x) && (decide (PySem.W.findIn K (.ref (He.ga K x)) "__setattr__" = some (some (.builtin "object.__setattr__"))) && (decide (PySem.W.subIn K (.ref (He.ga K x)) (.type "BaseException") = some true) &&
  (decide (PySem.W.typeIn K (.ref (He.ga K x)) = some (.type "type")) && (PySem.W.keepIn K (.ref (He.ga K x)) && (decide (PySem.W.findIn K (.ref (He.ga K x)) "__init__" = some (some (.ref (initA K (He.ga K x))))) &&
  (decide (PySem.W.typeIn K (.ref (initA K (He.ga K x))) = some (.type "function")) && (decide (PySem.W.ks_superIn K (He.ga K x) (He.ga K x) "__init__" = some (some (.builtin "ValueError.__init__"))) &&
  (decide (PySem.W.subIn K (.ref (He.ga K x)) (.type "ValueError") = some true) && (decide (PySem.W.mroIn K (He.ga K x) (.ref (He.ga K x)) = some true) && (decide (PySem.W.nsIn K cStatics "thirdparty.any" = some none) &&
  (decide (PySem.W.nsIn K mainGlobals "super" = some none) && (decide (PySem.W.findIn K (.ref (He.ga K x)) fld = some none) &&
  (match K.lookup (initA K (He.ga K x)) with
    | some ⟨_, _, .func fd, _⟩ => decide (fd.defaults = .none) && (decide (fd.kwdefaults = .none) && ((match fd.code with
        | .ref cda => PySem.W.codeIn K (.ref cda) qual && (match K.lookup cda with
          | some ⟨_, _, .fields vs, _⟩ => (match (vs[2]? : Option Value) with
            | some (Value.str file _) => (P.main.file : Str) == file
            | _ => false)
          | _ => false)
        | _ => false) && (match fd.closure with
        | [(n, cc)] => decide (n = "__class__") && (match K.lookup cc with
          | some ⟨_, _, .cell (some (.ref D)), _⟩ => decide (D = He.ga K x)
          | _ => false)
        | _ => false)))
    | _ => false)))))))))))))
theorem supB_ok {P : Program} {K : PySem.W.Frag} {x fld qual : Str} {params : Arguments} {body : List Stmt} {scope : Scope} (h : supB P K x fld qual = true) (e : supW K (He.ga K x) = (some ("__init__", qual, params, FuncBody.stmts body, scope, mainGlobals, builtinsNs) : SupW)) :
    ∃ fd, SupC P K (He.ga K x) (initA K (He.ga K x)) qual params body scope fd ∧ PySem.W.findIn K (.ref (He.ga K x)) fld = some none ∧
      ∃ doc pm an cd ct cc, fd = PySem.W.ksFn "__init__" qual params body scope .none .none doc pm an cd ct cc := by
  unfold supB at h
  obtain ⟨h1, h⟩ := He.ba h
  obtain ⟨h2, h⟩ := He.ba h
  obtain ⟨h3, h⟩ := He.ba h
  obtain ⟨h4, h⟩ := He.ba h
  obtain ⟨h5, h⟩ := He.ba h
  obtain ⟨h6, h⟩ := He.ba h
  obtain ⟨h7, h⟩ := He.ba h
  obtain ⟨h8, h⟩ := He.ba h
  obtain ⟨h9, h⟩ := He.ba h
  obtain ⟨h10, h⟩ := He.ba h
  obtain ⟨h11, h⟩ := He.ba h
  obtain ⟨h12, h⟩ := He.ba h
  obtain ⟨h13, h⟩ := He.ba h
  unfold supW at e
  cases q : K.lookup (initA K (He.ga K x)) with
  | none => rw [q] at h; cases h
  | some o =>
    obtain ⟨oc, od, dt, osl⟩ := o
    rw [q] at h e
    cases dt with
    | func fd =>
      obtain ⟨n1, n2, n3, n4, n5, n6, n7, n8, n9, n10, n11, n12, n13, n14, n15⟩ := fd
      have e2 : (some (n1, n2, n3, n4, n5, n6, n15) : SupW) = (some ("__init__", qual, params, FuncBody.stmts body, scope, mainGlobals, builtinsNs) : SupW) := e
      simp only [Option.some.injEq, Prod.mk.injEq] at e2
      obtain ⟨g1, g2, g3, g4, g5, g6, g7⟩ := e2
      subst g1 g2 g3 g4 g5 g6 g7
      obtain ⟨k1, h⟩ := He.ba h
      obtain ⟨k2, h⟩ := He.ba h
      obtain ⟨k3, k4⟩ := He.ba h
      have j1 : n8 = .none := of_decide_eq_true k1
      have j2 : n9 = .none := of_decide_eq_true k2
      subst j1
      subst j2
      dsimp only at k3 k4
      cases n13 with
      | ref cda =>
        obtain ⟨k5, k6⟩ := He.ba k3
        rcases n7 with _ | ⟨⟨n, cc⟩, _ | ⟨_, _⟩⟩
        · cases k4
        · obtain ⟨k7, k8⟩ := He.ba k4
          have j7 : n = "__class__" := of_decide_eq_true k7
          subst j7
          split at k6
          · rename_i ccl cdd vs ccs hl
            split at k6
            · rename_i file tf hv
              split at k8
              · rename_i cl cld D csl hcc
                have j8 : D = He.ga K x := of_decide_eq_true k8
                subst j8
                exact ⟨_, ⟨⟨oexB_ok h1, of_decide_eq_true h2, of_decide_eq_true h3, of_decide_eq_true h4, h5⟩, of_decide_eq_true h6, of_decide_eq_true h7,
                  ⟨oc, od, osl, .none, .none, n10, n11, n12, n14, cda, cc, rfl, q, k5, ⟨_, _, vs, _, file, tf, hl, hv, k6⟩, _, _, _, hcc⟩,
                  of_decide_eq_true h8, of_decide_eq_true h9, of_decide_eq_true h10, of_decide_eq_true h11, of_decide_eq_true h12⟩, of_decide_eq_true h13, n10, n11, n12, _, n14, cc, rfl⟩
              · cases k8
            · cases k6
          · cases k6
        · cases k4
      | _ => cases k3
    | _ => cases h
/-! ### the classes as they are used -/
structure ErrC (P : Program) (w : World) (K : PySem.W.Frag) (mg : Str → Option Value) (base : Heap) (x fld : Str) (c : V → Prop) : Prop where
  ox : OexC K (He.ga K x)
  gl : mg x = some (.ref (He.ga K x))
  ex : ∃ fI fd p, PySem.W.findIn K (.ref (He.ga K x)) "__init__" = some (some (.ref fI)) ∧ PySem.W.typeIn K (.ref fI) = some (.type "function") ∧ FnOk P w K mg base (L2N.CX P w) 1 fI fd ["self", p] (fun vs H Q _ => ∃ a y, vs = [.ref a, y] ∧ H a = some (exo a (He.ga K x) none) ∧ c y ∧
    ∀ dx, H dx = none → dx ≠ a → Q .non (upd (upd H dx (exd dx [(fld, y)])) a (exo a (He.ga K x) (some dx)))) ∧ Binds K fd ["self", p] []
section
variable {P : Program} {w : World} {K : PySem.W.Frag} {mg : Str → Option Value} {base : Heap} {x fld p qual : Str} {c : V → Prop} {params : Arguments} {scope : Scope}
theorem errC_of {a0 : Expr} {as : List Expr} {p0 p1 p2 p3 p4 p5 p6 p7 p8 : Pos} {ta : TA} {pl : Sem Bool}
    (hB : supB P K x fld qual = true) (hW : supW K (He.ga K x) = (some ("__init__", qual, params, FuncBody.stmts [.Expr (.Call (.Attribute (.Call (.Name "super" p0) [] [] p1) "__init__" p2) (a0 :: as) [] p3) p4, .Assign [.Attribute (.Name "self" p5) fld p6] (.Name p p8) p7], scope, mainGlobals, builtinsNs) : SupW))
    (hg : mg x = some (.ref (He.ga K x))) (S : SupS P params scope p) (hpd : (p == ("__debug__" : Str)) = false) (hpc : (p == ("__classdict__" : Str)) = false)
    (hbd : ∀ (doc pm : Value) (an : Option Addr) (cd ct : Value) (cc : Addr) (us : List Value), us.length = 2 → bindArgs (PySem.W.ksFn "__init__" qual params [.Expr (.Call (.Attribute (.Call (.Name "super" p0) [] [] p1) "__init__" p2) (a0 :: as) [] p3) p4, .Assign [.Attribute (.Name "self" p5) fld p6] (.Name p p8) p7] scope .none .none doc pm an cd ct cc) ⟨us, []⟩ = pure ([("self" : Str), p].zip us))
    (ha : ∀ f cd cc A outer s H E, PA (cxS (L2N.CX P w) P w K mg base ["self", p] qual scope f cd cc A outer s H E) (a0 :: as) ta)
    (hta : ∀ a y H Q', c y → (∀ ms : List V, ms.length ≤ 1000 → Q' ms H) → ta (start ["self", p] [.ref a, y]) H Q')
    (hcl : ∀ env : Env, eval (.Call (.Attribute (.Call (.Name "super" p0) [] [] p1) "__init__" p2) (a0 :: as) [] p3) env = (do
      let ov ← attributeBase (.Call (.Name "super" p0) [] [] p1) "__init__" env (eval (.Call (.Name "super" p0) [] [] p1) env)
      standAt p2.atName
      let (f, first) ← holding [ov] (getMethod ov "__init__" pl)
      callWith p3 f first (backTo p3 (starEach (a0 :: as) env)) []) := by intro _; rfl)
    (hst : ∀ env : Env, starEach (a0 :: as) env = (false, eval a0 env) :: starEach as env := by intro _; rfl) (hpl : ∀ env : Env, (backTo p3 (starEach as env)).any (·.1) = false := by intro _; rfl)
    (hsw0 : ∀ (n : Nat) (env : Env), swapsWith (.Call (.Attribute (.Call (.Name "super" p0) [] [] p1) "__init__" p2) (a0 :: as) [] p3) none n env = pure false := by intro _ _; rfl)
    (hsw : ∀ env : Env, swapsWith (.Name p p8) (some (.Attribute (.Name "self" p5) fld p6)) p7.line env = pure false := by intro _; rfl) : ErrC P w K mg base x fld c := by
  obtain ⟨fd, T, hf, doc, pm, an, cd, ct, cc, rfl⟩ := supB_ok hB hW
  refine ⟨T.ox, hg, _, _, p, T.iC, T.tI, (sup_ok (k := 0) T S hf hpd hpc ha hcl hst hpl hsw0 hsw).imp fun vs H Q E h => ?_, Binds.all fun us hl => hbd _ _ _ _ _ _ us hl⟩
  obtain ⟨a, y, rfl, ea, hc, h⟩ := h
  exact ⟨a, y, rfl, ea, fun Q' k => hta a y H Q' hc k, h⟩
end
/-- the class called: a new error whose context is None -/
theorem pmkN {X : Cx} {x : Str} {e : Expr} {es : List Expr} {ta : TA} {pn pc : Pos} {C fI : Addr} {k : Nat} {fd : FuncData} {ps : List Str} {sp : Sp} (T : OexC X.K C) (iC : PySem.W.findIn X.K (.ref C) "__init__" = some (some (.ref fI)))
    (tI : PySem.W.typeIn X.K (.ref fI) = some (.type "function")) (F1 : FnOk X.prog X.w X.K X.mg X.base (L2N.CX X.prog X.w) k fI fd ps sp) (hr : Room (k + 1) X.A) (hb : Binds X.K fd ps []) (hg : Gl X x) (hm : X.mg x = some (.ref C))
    (ha : PA X (e :: es) ta) (hdb : (x == ("__debug__" : Str)) = false) (he : starEach (e :: es) X.env = (false, eval e X.env) :: starEach es X.env) (hpl : (backTo pc (starEach es X.env)).any (·.1) = false) :
    L2N.PMk X (.Call (.Name x pn) (e :: es) [] pc) (tMkO C sp [] ta) := by
  intro pins s0 σ H Q I0 want
  obtain ⟨nm, q, N, bs, bm, sn, sub, ab, col, dd, k0, k1, k2, k3, k5, hC, hbm⟩ := T.cls
  refine wpAny_Call_Name_kw (ld_glob I0 hg hm ?_ hdb)
  refine PySem.W.callWith_K (h₀ := X.base) I0.ok.mod.kin T.kC ?_ he hpl
  refine thn (ha.run pc pins s0 σ H _ I0 want) fun us s1 ⟨vs, H1, I1, r1, hz, q1⟩ => ⟨I1.kIn, ?_⟩
  obtain ⟨hp, g, dr, tk, os⟩ := s1
  have hn : H1 (hp.objs.size + 1) = none := I1.hok.fresh (Nat.le_succ _)
  have hq := q1 _ hn
  have kk : ∀ b o, hp.get? b = some o → ((hp.push (PySem.W.kdv_tup us)).push (PySem.HandSPX.excO C hp.objs.size)).get? b = some o := fun b o z => Heap.get?_push_of_some _ (Heap.get?_push_of_some _ z)
  have at1 : ((hp.push (PySem.W.kdv_tup us)).push (PySem.HandSPX.excO C hp.objs.size)).get? (hp.objs.size + 1) = some (PySem.HandSPX.excO C hp.objs.size) := by heap_get
  have I2 := I1.laid (t' := tk) (a := hp.objs.size + 1) (o := exo (hp.objs.size + 1) C none) kk (Nat.le_succ _) (exo_ok at1)
  have hl : (Value.ref (hp.objs.size + 1) :: us ++ []).length = ps.length := by
    have z : Vals (V.ref (hp.objs.size + 1) :: (vs ++ [])) (Value.ref (hp.objs.size + 1) :: (us ++ [])) := Paired.cons (show RelV (V.ref (hp.objs.size + 1)) (Value.ref (hp.objs.size + 1)) from rfl) (r1.append .nil)
    exact z.length.symm.trans (F1.len _ _ _ _ hq)
  have hus : us.length ≤ sizeLine := by
    rw [← Paired.length r1, sizeLine_eq]
    omega
  show wpAny _ _ (call (.ref C) us) _ _ _
  refine wpAny_call (PySem.HandSPX.call_own F.excBase_ValueError (fun Y => PySem.HandSPX.refsVE_contains Y bm hbm) (I1.kIn _ _ hC) (PySem.W.looks_findIn I1.kIn iC) (fun self => PySem.W.bind_fn I1.kIn self tI) hus ?_)
  have r2 : Vals (V.ref (hp.objs.size + 1) :: (vs ++ [])) (Value.ref (hp.objs.size + 1) :: us ++ []) := Paired.cons (show RelV (V.ref (hp.objs.size + 1)) (Value.ref (hp.objs.size + 1)) from rfl) (r1.append .nil)
  have run := F1.run _ X.stack _ _ ⟨Value.ref (hp.objs.size + 1) :: us, []⟩ (Value.ref (hp.objs.size + 1) :: us ++ []) _ _ (fun _ _ _ => False) (hr.make C us []) (I2.env0.make C us []) (hb _ (Value.ref (hp.objs.size + 1) :: us) I2.kIn hl) r2 hq
  refine codeAny_mono run fun r s' hq' => ?_
  cases r with
  | error er => exact passN pins σ _ _ er s' I2 hq'
  | ok fl =>
    cases fl with
    | ret u =>
      obtain ⟨v, H2, os2, bare2, un2, hok2, rv, ev, d, fs, ea, ed, hd1, q2⟩ := hq'
      subst ev
      obtain ⟨h2, g2, d2, t2, os'⟩ := s'
      obtain ⟨t0, G, J, kG, ge, hoe, na⟩ := mk_end0 (d2 := d2) (t2 := t2) I1 (Nat.le_succ _) kk un2 hok2 os2 bare2 ea ed hd1
      refine ⟨rv, _, _, _, ⟨G, g2, d2, t2, os'⟩, _, .ref C, some d, rfl, J, kG, ge, hoe, ⟨rfl, rfl, fun ws z => ?_⟩, rfl, rfl, na, rfl, bare2, raises_own T.exC T.tyC, q2⟩
      cases z
      rfl
    | next => exact hq'.elim
    | brk => exact hq'.elim
    | cont => exact hq'.elim
/-- raise x(v) -/
def raiseM {R : Type} (c : Bool) (x f : String) (d : PyData) : Res R := guardR c (.err ⟨x, [(f, d)]⟩)
section
variable {X : Cx} {W : WX} {ρ : List Slot} {ρe : Option (List Slot)} {T S₁ B R : Type} [Rp T] [Dat T] {a : Expr} {rest : List Stmt} {pos p1 p2 : Pos} {lv : Nat} {cls fld : String} {c : V → Prop} {cb : T → Bool} {m : Res T} {n : S₁ → List Slot} {b : B → List Slot} {Z : Rt R}
theorem raise_core (C : CtxOk X W lv) (Ec : ErrC X.prog X.w X.K X.mg X.base (Str.ofString cls) (Str.ofString fld) c) (h : EG X W true ρ a m) (hc : ∀ (K : PySem.W.Frag) (H : Hp) (y : V) (v : T), rp K H y v → cb v = true → c y) (hk : 2 ≤ lv) (w : WkO ρ ρe)
    (hg : Gl X (Str.ofString cls)) (hdb : ((Str.ofString cls) == ("__debug__" : Str)) = false) (he : starEach (a :: []) X.env = (false, eval a X.env) :: starEach [] X.env) (hpl : (backTo p2 (starEach [] X.env)).any (·.1) = false) :
    ∃ t, PS X (.Raise (some (.Call (.Name (Str.ofString cls) p1) [a] [] p2)) none pos) t ∧ ∀ (S own : List Addr) (σ : St) (H : Hp) (D : Ends) (U : Type) (P : U → Prop), RS X.K S ρ σ H own → Post (m.bind fun v => raiseM (R := U) (cb v) cls fld (Dat.toD v)) P (ErrS X.K W S own H ρe) → t D σ H := by
  obtain ⟨ta, pa, qa⟩ := h.ex
  obtain ⟨fI, fd, p, iC, tI, F1, hb⟩ := Ec.ex
  refine ⟨_, L2N.ps_raise C.calm C.tk (pmkN Ec.ox iC tI F1 (C.room.mono hk) hb hg Ec.gl (pa_cons pa pa_nil he) hdb he hpl), fun S own σ H D U P rs hp => ?_⟩
  refine qa S own σ H _ rs (hp.bind.imp (fun v hv H1 y s1 r1 => ?_) fun _ z => z.toX rs w)
  obtain ⟨hcb, hx⟩ := Post.guard hv
  refine ⟨by show 1 ≤ 1000; decide, fun a2 na => ⟨a2, y, rfl, upd_same, hc _ _ _ _ r1 hcb, fun dx nd dne => ⟨rfl, dx, [(Str.ofString fld, y)], upd_same, ?_, ?_, ?_⟩⟩⟩
  · rw [upd_ne dne, upd_same]
  · rw [upd_ne dne] at nd; exact nd
  · have nd1 : H1 dx = none := by rw [upd_ne dne] at nd; exact nd
    have sm : Same H1 (upd (del (upd (upd (upd H1 a2 (exo a2 (He.ga X.K (Str.ofString cls)) none)) dx (exd dx [(Str.ofString fld, y)])) a2 (exo a2 (He.ga X.K (Str.ofString cls)) (some dx))) a2) dx (.xd [(Str.ofString fld, y)])) := fun b o e => by
      have n1 : b ≠ a2 := fun z => by rw [z, na] at e; cases e
      have n2 : b ≠ dx := fun z => by rw [z, nd1] at e; cases e
      rw [upd_ne n2, del_ne n1, upd_ne n1, upd_ne n2, upd_ne n1]
      exact e
    have nin : dx ∉ S ++ own := fun z => by
      have q := rs.dom dx z
      cases e : H dx with
      | none => exact q e
      | some o =>
        have := s1 _ _ e
        rw [nd1] at this
        cases this
    have r2 : rp X.K (hide (S ++ own) H1) y v := r1
    have pd := Dat.dp (Rp.mono (hide_same (B := S ++ own) sm) r2)
    refine (ErrS.toX hx rs w) _ _ _ (s1.trans sm) ⟨rfl, dx, [(Str.ofString fld, y)], rfl, ?_, Paired.cons (a := (Str.ofString fld, y)) (b := (fld, Dat.toD v)) ⟨rfl, pd⟩ .nil⟩
    rw [hide_out nin]
    exact upd_same
theorem r_raise (C : CtxOk X W lv) (Ec : ErrC X.prog X.w X.K X.mg X.base (Str.ofString cls) (Str.ofString fld) c) (h : EG X W true ρ a m) (hc : ∀ (K : PySem.W.Frag) (H : Hp) (y : V) (v : T), rp K H y v → cb v = true → c y) (hk : 2 ≤ lv := by decide) (w : WkO ρ ρe := by first | exact True.intro | (repeat (first | exact Wk.nil | refine Wk.s ?_ | refine Wk.n ?_)))
    (hg : Gl X (Str.ofString cls) := by rfl) (hdb : ((Str.ofString cls) == ("__debug__" : Str)) = false := by decide) (he : starEach (a :: []) X.env = (false, eval a X.env) :: starEach [] X.env := by rfl) (hpl : (backTo p2 (starEach [] X.env)).any (·.1) = false := by rfl) :
    SR X W ρe ρ (.Raise (some (.Call (.Name (Str.ofString cls) p1) [a] [] p2)) none pos :: rest) Z (m.bind fun v => raiseM (cb v) cls fld (Dat.toD v)) := by
  obtain ⟨t, p, q⟩ := raise_core (pos := pos) (p1 := p1) (ρe := ρe) C Ec h hc hk w hg hdb he hpl
  exact ⟨_, pss_cons p pss_never, fun S own σ H D rs hp => q S own σ H _ R _ rs hp⟩
theorem b_raise (C : CtxOk X W lv) (Ec : ErrC X.prog X.w X.K X.mg X.base (Str.ofString cls) (Str.ofString fld) c) (h : EG X W true ρ a m) (hc : ∀ (K : PySem.W.Frag) (H : Hp) (y : V) (v : T), rp K H y v → cb v = true → c y) (hk : 2 ≤ lv := by decide) (w : WkO ρ ρe := by first | exact True.intro | (repeat (first | exact Wk.nil | refine Wk.s ?_ | refine Wk.n ?_)))
    (hg : Gl X (Str.ofString cls) := by rfl) (hdb : ((Str.ofString cls) == ("__debug__" : Str)) = false := by decide) (he : starEach (a :: []) X.env = (false, eval a X.env) :: starEach [] X.env := by rfl) (hpl : (backTo p2 (starEach [] X.env)).any (·.1) = false := by rfl) :
    SN X W ρe ρ (.Raise (some (.Call (.Name (Str.ofString cls) p1) [a] [] p2)) none pos :: rest) n (m.bind fun v => raiseM (cb v) cls fld (Dat.toD v)) := by
  obtain ⟨t, p, q⟩ := raise_core (pos := pos) (p1 := p1) (ρe := ρe) C Ec h hc hk w hg hdb he hpl
  exact ⟨_, pss_cons p pss_never, fun S own σ H D rs hp => q S own σ H _ S₁ _ rs hp⟩
theorem c_raise (C : CtxOk X W lv) (Ec : ErrC X.prog X.w X.K X.mg X.base (Str.ofString cls) (Str.ofString fld) c) (h : EG X W true ρ a m) (hc : ∀ (K : PySem.W.Frag) (H : Hp) (y : V) (v : T), rp K H y v → cb v = true → c y) (hk : 2 ≤ lv := by decide) (w : WkO ρ ρe := by first | exact True.intro | (repeat (first | exact Wk.nil | refine Wk.s ?_ | refine Wk.n ?_)))
    (hg : Gl X (Str.ofString cls) := by rfl) (hdb : ((Str.ofString cls) == ("__debug__" : Str)) = false := by decide) (he : starEach (a :: []) X.env = (false, eval a X.env) :: starEach [] X.env := by rfl) (hpl : (backTo p2 (starEach [] X.env)).any (·.1) = false := by rfl) :
    SC X W ρe ρ (.Raise (some (.Call (.Name (Str.ofString cls) p1) [a] [] p2)) none pos :: rest) n b Z (m.bind fun v => raiseM (cb v) cls fld (Dat.toD v)) := by
  obtain ⟨t, p, q⟩ := raise_core (pos := pos) (p1 := p1) (ρe := ρe) C Ec h hc hk w hg hdb he hpl
  exact ⟨_, pss_cons p pss_never, fun S own σ H D rs hp => q S own σ H _ (Ctl S₁ B R) _ rs hp⟩
end
end Py

set_option Elab.async false
set_option linter.all false
set_option maxRecDepth 100000
set_option maxHeartbeats 4000000
/-! Py, part X3: try .. except. -/
namespace Py
open PySem PySem.Spec L2
open Rp (rp)
theorem ofString_inj {a b : String} (h : Str.ofString a = Str.ofString b) : a = b := by
  rw [Str.ofString_eq_toList, Str.ofString_eq_toList] at h
  have h1 : a.toList.map Char.toNat = b.toList.map Char.toNat := by
    have h2 := congrArg (fun s : Str => s.1.toList) h
    simpa using h2
  have h3 : a.toList = b.toList := (List.map_inj_right (fun x y e => Char.ext (UInt32.toNat_inj.mp e))).mp h1
  exact String.toList_inj.mp h3
/-- a caught error, as the suite's name holds it: where it stands, where its dict stands, what it says -/
structure XV where
  a : Addr
  dx : Addr
  e : Ex
instance : Rp XV where
  rp K H v x := v = .ref x.a ∧ ∃ fs, H x.dx = some (.xd fs) ∧ Paired (fun (p : Str × V) (q : String × PyData) => p.1 = Str.ofString q.1 ∧ Dp K H p.2 q.2) fs x.e.fs
  mono s h := by
    obtain ⟨h1, fs, h2, h3⟩ := h
    exact ⟨h1, fs, s _ _ h2, Paired.imp2 h3 fun a b z => ⟨z.1, dp_same s z.2⟩⟩
/-- does the clause of class c take an error of class x? (all own classes stand flat under Fault) -/
def catches (c x : String) : Bool := c == "Fault" || x == c
def pickM {R : Type} (e : Ex) : List (String × (Ex → Res R)) → Res R
  | [] => .err e
  | (c, h) :: r => if catches c e.cls then (h e).quiet else pickM e r
def catchM {R : Type} (kn : List String) (hs : List (String × (Ex → Res R))) : Res R → Res R
  | .err e => if kn.contains e.cls then pickM e hs else .bad
  | .ok a => .ok a
  | .bad => .bad
def fldD (e : Ex) (f : String) : Res PD := match e.fs.lookup f with
  | some d => .ok ⟨d⟩
  | none => .bad
section
variable {S₁ B R : Type} {X : Cx} {W : WX} {ρe : Option (List Slot)} {ρ ρh : List Slot} {n : S₁ → List Slot} {b : B → List Slot} {Z : Rt R} {body : List Stmt} {lv : Nat}
/-- what a block's judgement says, as a reading -/
def semC (K : PySem.W.Frag) (W : WX) (ρe : Option (List Slot)) (ρ : List Slot) (n : S₁ → List Slot) (b : B → List Slot) (Z : Rt R) (m : Res (Ctl S₁ B R)) : TS := fun D σ H =>
  ∃ S own, RS K S ρ σ H own ∧ Post m (CtlP K S own H D n b Z) (ErrS K W S own H ρe)
theorem SC.sem {m : Res (Ctl S₁ B R)} (h : SC X W ρe ρ body n b Z m) : PSs X body (semC X.K W ρe ρ n b Z m) := by
  refine ⟨fun pins s σ H D I q => ?_⟩
  obtain ⟨S, own, rs, hp⟩ := q
  obtain ⟨t, p, k⟩ := h.ex
  exact p.run pins s σ H D I (k S own σ H D rs hp)
theorem Post.quiet_to {α : Type} {m : Res α} {P : α → Prop} {E E' : Ex → Prop} (h : Post m.quiet P E) : Post m P E' := by
  cases m with
  | ok a => exact h
  | err e => exact h.elim
  | bad => exact h.elim
/-- the context of a try's body -/
theorem CtxOk.tr (C : CtxOk X W lv) {W' : WX} {pn : List (Addr × Obj)} {xe : Value → Shared → Prop} (tk : L2N.Takes (X.tr pn xe) W') (po : PassesOwn (model X.prog X.w) X.A X.env xe) : CtxOk (X.tr pn xe) W' lv :=
  ⟨C.calm, C.nd, tk, po, C.room⟩
/-- what stands of the suite's context -/
structure SuOk (X : Cx) (a dx : Addr) (e : Ex) (oe : Obj) : Prop where
  z : L2N.Zn (.ref (He.ga X.K (Str.ofString e.cls))) (some dx) oe
  f : ∃ vs, oe.data = .fields vs
/-- the facts of the classes -/
structure ExmK (K : PySem.W.Frag) (mg : Str → Option Value) (kn : List String) : Prop where
  exm : ∀ x ∈ kn, ∀ c ∈ "Fault" :: kn, PySem.W.exmOne K (.ref (He.ga K (Str.ofString x))) (.ref (He.ga K (Str.ofString c))) = some (catches c x)
  gl : ∀ c ∈ "Fault" :: kn, mg (Str.ofString c) = some (.ref (He.ga K (Str.ofString c)))
  xf : ∀ x ∈ kn, XfC K (He.ga K (Str.ofString x))
  kit : ∀ x ∈ kn, ∀ c ∈ "Fault" :: kn, PySem.W.kitOne K (.ref (He.ga K (Str.ofString x))) (.ref (He.ga K (Str.ofString c))) = some (catches c x)
  kitV : ∀ x ∈ kn, PySem.W.kitOne K (.ref (He.ga K (Str.ofString x))) (.type "ValueError") = some true
  isc : ∀ x ∈ kn, ExcC K (He.ga K (Str.ofString x))
theorem RS.gone {K : PySem.W.Frag} {S own : List Addr} {ρ : List Slot} {σ : St} {H : Hp} (i : Nat) (h : RS K S ρ σ H own) (hi : ρ.set i .non = ρ) : RS K S ρ (σ.set i none) H own := by
  obtain ⟨⟨ads, r, nd, sub⟩, o, d⟩ := h
  obtain ⟨ads', r', sl⟩ := r.forget (o := none) i
  rw [hi] at r'
  exact ⟨⟨ads', r', nd.sublist sl, fun a ha => sub a (sl.subset ha)⟩, o, d⟩
theorem CtlP.unset {K : PySem.W.Frag} {S own : List Addr} {H : Hp} {D : Ends} {z : Ctl S₁ B R} (i : Nat) (hn : ∀ s, (n s).set i .non = n s) (hb : ∀ s, (b s).set i .non = b s) (h : CtlP K S own H D n b Z z) :
    CtlP K S own H { nx := fun σ' H' => D.nx (σ'.set i none) H', rt := D.rt, bk := fun σ' H' => D.bk (σ'.set i none) H', ct := fun σ' H' => D.ct (σ'.set i none) H' } n b Z z := by
  cases z with
  | nx s => exact fun σ' H' own' x r => h _ H' own' x (r.gone i (hn s))
  | rt r => exact h
  | bk s => exact fun σ' H' own' x r => h _ H' own' x (r.gone i (hb s))
  | ct s => exact fun σ' H' own' x r => h _ H' own' x (r.gone i (hb s))
/-- try: body / except c as x: suite -/
theorem x_try_as (i : Nat) {kn : List String} {c : String} {x : Str} {b₀ : Stmt} {suite : List Stmt} {np pos pos' : Pos} {m : Res (Ctl S₁ B R)} {h : Ex → Res (Ctl S₁ B R)} (C : CtxOk X W lv) (EK : ExmK X.K X.mg kn)
    (hb : ∀ (W' : WX) (pn : List (Addr × Obj)) (xe : Value → Shared → Prop), CtxOk (X.tr pn xe) W' lv → SC (X.tr pn xe) W' (some ρh) ρ body n b Z m)
    (hsu : ∀ (a dx : Addr) (e : Ex) (oe : Obj) (pn : List (Addr × Obj)), SuOk X a dx e oe → e.cls ∈ kn → catches c e.cls = true → SC (X.suite a ((a, oe) :: pn)) (fun _ _ _ _ => False) none (ρh.set i (.val XV ⟨a, dx, e⟩)) (b₀ :: suite) n b Z (h e))
    (hc : c ∈ "Fault" :: kn := by decide) (w : WkO ρh ρe := by first | exact True.intro | (repeat (first | exact Wk.nil | refine Wk.s ?_ | refine Wk.n ?_))) (hn : ∀ s, (n s).set i .non = n s := by intro s; first | rfl | cases s) (hbn : ∀ s, (b s).set i .non = b s := by intro s; first | rfl | cases s)
    (hi : X.N[i]? = some x := by rfl) (hln : X.env.kindOf x = some .local := by rfl) (hg : Gl X (Str.ofString c) := by rfl) (hdb : ((Str.ofString c) == ("__debug__" : Str)) = false := by decide) (hs : X.stack = X.env :: X.outer := by rfl) (hf : X.env.frame = some X.env.locals := by rfl) :
    C1 X W ρe ρ (.Try body [.ExceptHandler (some (.Name (Str.ofString c) np)) (some x) (b₀ :: suite) pos'] [] [] pos) n b Z (catchM kn [(c, h)] m) := by
  refine ⟨_, L2N.ps_try_as (tb := fun W' => semC X.K W' (some ρh) ρ n b Z m) (ts := fun a cls d D σ H => ∃ dx e, cls = .ref (He.ga X.K (Str.ofString e.cls)) ∧ d = some dx ∧ e.cls ∈ kn ∧ catches c e.cls = true ∧ semC X.K (fun _ _ _ _ => False) none (ρh.set i (.val XV ⟨a, dx, e⟩)) n b Z (h e) D σ H) hs hf C.nd hi hln ⟨hg, hdb, .inl (EK.gl c hc)⟩ C.tk
    (fun W' pn xe tk po => (hb W' pn xe (C.tr tk po)).sem) (fun a oe cls d pn z f => ⟨fun pins s σ H D I q => ?_⟩), fun S own σ H D rs hp => ⟨S, own, rs, ?_⟩⟩
  · obtain ⟨dx, e, rfl, rfl, hk, hcc, q⟩ := q
    exact (hsu a dx e oe pn ⟨z, f⟩ hk hcc).sem.run pins s σ H D I q
  · cases m with
    | ok z => exact hp
    | bad => exact hp
    | err e =>
      intro σ' H' own' cls d x' r q
      obtain ⟨rfl, dx, fs, rfl, q3, q4⟩ := q
      have hp' : Post (if kn.contains e.cls then pickM e [(c, h)] else .bad) (CtlP X.K S own H D n b Z) (ErrS X.K W S own H ρe) := hp
      cases hk : kn.contains e.cls with
      | false => rw [hk] at hp'; exact hp'.elim
      | true =>
        rw [hk] at hp'
        have hk' : e.cls ∈ kn := List.contains_iff_mem.mp hk
        refine ⟨catches c e.cls, EK.exm _ hk' _ hc, fun hcc a na => ⟨dx, e, rfl, rfl, hk', hcc, S, own', ?_, ?_⟩, fun hcc => ?_⟩
        · have rv : rp X.K (hide (S ++ own') H') (V.ref a) (XV.mk a dx e) := ⟨rfl, fs, q3, q4⟩
          exact (r _ rfl).set rv i
        · have hp2 : Post (if catches c e.cls then (h e).quiet else pickM e []) (CtlP X.K S own H D n b Z) (ErrS X.K W S own H ρe) := hp'
          rw [if_pos hcc] at hp2
          exact (hp2.quiet_to (E' := fun _ => False)).imp (fun z hz => (hz.mono x').unset i hn hbn) fun _ z => z.elim
        · have hp2 : Post (if catches c e.cls then (h e).quiet else pickM e []) (CtlP X.K S own H D n b Z) (ErrS X.K W S own H ρe) := hp'
          rw [if_neg (by rw [hcc]; exact Bool.false_ne_true)] at hp2
          have hp3 : ErrS X.K W S own H ρe e := hp2
          exact hp3 σ' H' own' _ _ x' (fun r' er => by subst er; exact (r _ rfl).wk w) ⟨rfl, dx, fs, rfl, q3, q4⟩

/-! several clauses without names -/
inductive HdJ (X : Cx) (kn : List String) (ρh : List Slot) (n : S₁ → List Slot) (b : B → List Slot) (Z : Rt R) : List ExceptHandler → List (String × (Ex → Res (Ctl S₁ B R))) → Prop
  | nil : HdJ X kn ρh n b Z [] []
  | cons {c : String} {b₀ : Stmt} {suite : List Stmt} {np pos' : Pos} {h : Ex → Res (Ctl S₁ B R)} {hds : List ExceptHandler} {r : List (String × (Ex → Res (Ctl S₁ B R)))} (hc : c ∈ "Fault" :: kn) (hg : Gl X (Str.ofString c)) (hdb : ((Str.ofString c) == ("__debug__" : Str)) = false)
      (hsu : ∀ (a dx : Addr) (e : Ex) (oe : Obj) (pn : List (Addr × Obj)), SuOk X a dx e oe → e.cls ∈ kn → catches c e.cls = true → SC (X.suite a ((a, oe) :: pn)) (fun _ _ _ _ => False) none ρh (b₀ :: suite) n b Z (h e)) (q : HdJ X kn ρh n b Z hds r) :
      HdJ X kn ρh n b Z (.ExceptHandler (some (.Name (Str.ofString c) np)) none (b₀ :: suite) pos' :: hds) ((c, h) :: r)
theorem h_cons {kn : List String} {c : String} {b₀ : Stmt} {suite : List Stmt} {np pos' : Pos} {h : Ex → Res (Ctl S₁ B R)} {hds : List ExceptHandler} {r : List (String × (Ex → Res (Ctl S₁ B R)))}
    (hsu : ∀ (a dx : Addr) (e : Ex) (oe : Obj) (pn : List (Addr × Obj)), SuOk X a dx e oe → e.cls ∈ kn → catches c e.cls = true → SC (X.suite a ((a, oe) :: pn)) (fun _ _ _ _ => False) none ρh (b₀ :: suite) n b Z (h e)) (q : HdJ X kn ρh n b Z hds r)
    (hc : c ∈ "Fault" :: kn := by decide) (hg : Gl X (Str.ofString c) := by rfl) (hdb : ((Str.ofString c) == ("__debug__" : Str)) = false := by decide) : HdJ X kn ρh n b Z (.ExceptHandler (some (.Name (Str.ofString c) np)) none (b₀ :: suite) pos' :: hds) ((c, h) :: r) :=
  .cons hc hg hdb hsu q
def lsem (K : PySem.W.Frag) (kn : List String) (ρh : List Slot) (n : S₁ → List Slot) (b : B → List Slot) (Z : Rt R) (hs : List (String × (Ex → Res (Ctl S₁ B R)))) : List (Value × (Addr → Value → Option Addr → TS)) :=
  hs.map fun p => (.ref (He.ga K (Str.ofString p.1)), fun _ cls d D σ H => ∃ dx e, cls = .ref (He.ga K (Str.ofString e.cls)) ∧ d = some dx ∧ e.cls ∈ kn ∧ catches p.1 e.cls = true ∧ semC K (fun _ _ _ _ => False) none ρh n b Z (p.2 e) D σ H)
theorem HdJ.hds {kn : List String} {hds : List ExceptHandler} {hs : List (String × (Ex → Res (Ctl S₁ B R)))} (EK : ExmK X.K X.mg kn) (j : HdJ X kn ρh n b Z hds hs) : L2N.HdsOk X hds (lsem X.K kn ρh n b Z hs) := by
  induction j with
  | nil => exact .nil
  | @cons c b₀ suite np pos' h hds r hc hg hdb hsu _ ih =>
    refine .cons ⟨hg, hdb, .inl (EK.gl c hc)⟩ (fun a oe cls d pn z f => ⟨fun pins s σ H D I q => ?_⟩) ih
    obtain ⟨dx, e, rfl, rfl, hk, hcc, q⟩ := q
    exact (hsu a dx e oe pn ⟨z, f⟩ hk hcc).sem.run pins s σ H D I q
theorem x_try {kn : List String} {h₀ : ExceptHandler} {hds : List ExceptHandler} {hs : List (String × (Ex → Res (Ctl S₁ B R)))} {pos : Pos} {m : Res (Ctl S₁ B R)} (C : CtxOk X W lv) (EK : ExmK X.K X.mg kn)
    (hb : ∀ (W' : WX) (pn : List (Addr × Obj)) (xe : Value → Shared → Prop), CtxOk (X.tr pn xe) W' lv → SC (X.tr pn xe) W' (some ρh) ρ body n b Z m)
    (j : HdJ X kn ρh n b Z (h₀ :: hds) hs) (w : WkO ρh ρe := by first | exact True.intro | (repeat (first | exact Wk.nil | refine Wk.s ?_ | refine Wk.n ?_))) (hst : X.stack = X.env :: X.outer := by rfl) (hf : X.env.frame = some X.env.locals := by rfl) :
    C1 X W ρe ρ (.Try body (h₀ :: hds) [] [] pos) n b Z (catchM kn hs m) := by
  refine ⟨_, L2N.ps_try_many (tb := fun W' => semC X.K W' (some ρh) ρ n b Z m) hst hf C.tk (fun W' pn xe tk po => (hb W' pn xe (C.tr tk po)).sem) (j.hds EK), fun S own σ H D rs hp => ⟨S, own, rs, ?_⟩⟩
  cases m with
  | ok z => exact hp
  | bad => exact hp
  | err e =>
    intro σ' H' own' cls d x' r q
    have q0 := q
    obtain ⟨rfl, dx, fs, rfl, q3, q4⟩ := q0
    have hp' : Post (if kn.contains e.cls then pickM e hs else .bad) (CtlP X.K S own H D n b Z) (ErrS X.K W S own H ρe) := hp
    cases hk : kn.contains e.cls with
    | false => rw [hk] at hp'; exact hp'.elim
    | true =>
      rw [hk] at hp'
      have hk' : e.cls ∈ kn := List.contains_iff_mem.mp hk
      have hp2 : Post (pickM e hs) (CtlP X.K S own H D n b Z) (ErrS X.K W S own H ρe) := hp'
      have key : ∀ {hds : List ExceptHandler} {hs : List (String × (Ex → Res (Ctl S₁ B R)))}, HdJ X kn ρh n b Z hds hs → Post (pickM e hs) (CtlP X.K S own H D n b Z) (ErrS X.K W S own H ρe) → wMany X.K W D (lsem X.K kn ρh n b Z hs) (.ref (He.ga X.K (Str.ofString e.cls))) (some dx) σ' H' := by
        intro hds hs j hp
        induction j with
        | nil =>
          have hp3 : ErrS X.K W S own H ρe e := hp
          exact hp3 σ' H' own' _ _ x' (fun r' er => by subst er; exact (r _ rfl).wk w) ⟨rfl, dx, fs, rfl, q3, q4⟩
        | @cons c b₀ suite np pos' h hds r0 hc hg hdb hsu _ ih =>
          have hp2 : Post (if catches c e.cls then (h e).quiet else pickM e r0) (CtlP X.K S own H D n b Z) (ErrS X.K W S own H ρe) := hp
          refine ⟨catches c e.cls, EK.exm _ hk' _ hc, fun hcc a na => ⟨dx, e, rfl, rfl, hk', hcc, S, own', r _ rfl, ?_⟩, fun hcc => ?_⟩
          · rw [if_pos hcc] at hp2
            exact (hp2.quiet_to (E' := fun _ => False)).imp (fun z hz => hz.mono x') fun _ z => z.elim
          · rw [if_neg (by rw [hcc]; exact Bool.false_ne_true)] at hp2
            exact ih hp2
      exact key j hp2
/-! isinstance of a caught error that has its dict -/
section
open PySem.W PyProof.Rows
theorem find_cls {K : PySem.W.Frag} {C : Addr} {od : Option Obj} {name : Str} {a g : Value} (hc : (clsIn K C).isSome = true) (ha : findIn K (.ref C) name = some (some a)) (hg : specialIn K a "__get__" = some (some g)) (ht : takesIn K a = some true) : findObj K C od name = some (.bind g a) := by
  rcases Option.isSome_iff_exists.mp hc with ⟨cd, q⟩
  unfold findObj
  rw [q, Option.bind_some, ha, Option.bind_some]
  simp [hg, ht]
theorem cls_of_err {prog : Program} {w : World} {A : Around} {E : Value → Shared → Prop} {s : Shared} {K : PySem.W.Frag} {x D : Addr} {ox : Obj} {od : Option Obj} {Q : Option Value → Shared → Prop} (T : ExcC K D) (X : K.In s.heap) (I : PySem.W.InstAt s.heap x ox D od)
    (h : Q (some (.ref D)) { s with toks := s.toks + 1 }) : wpAny (model prog w) A (getAttr? (.ref x) "__class__") Q E s := by
  have fnd : findObj K D od "__class__" = some (.bind (.builtin "getset_descriptor.__get__") (.builtin "object.__class__")) := find_cls (by rcases any_some T.hd with ⟨cd, hc, _⟩; rw [hc]; rfl) T.ha T.hn T.ht
  rcases s with ⟨hp, g, d, t, os⟩
  have l0 := I.type (M := model prog w)
  have l1 := looks_findIn (M := model prog w) X T.hg
  have l2 := looks_findIn (M := model prog w) X T.hk
  have l3 := looks_find (M := model prog w) X I fnd
  have isE : PySem.W.Looks (model prog w) hp (isInstance (.ref x) (.type "BaseException")) true := l0.andThen (looks_subIn X T.hs)
  have n0 : (false && onTheHeap (Value.builtin "BaseException.__getattribute__")) = false := rfl
  have n2 : (Value.builtin "BaseException.__getattribute__" == Value.builtin "object.__getattribute__") = false := by decide +kernel
  have n1 : (onTheHeap (Value.ref D) && Value.builtin "BaseException.__getattribute__" == Value.builtin "object.__getattribute__") = false := by rw [n2]; rfl
  unfold getAttr? getAttrBy? getAttrBy
  refine wpAny_bind (wpAny_mkText (wpAny_bind (wpAny_attempt (wpAny_holding (wpAny_bind (l0.at
    (wpAny_bind (l1.at ?_))))))))
  show wpAny _ _ (if (onTheHeap (Value.ref D) && Value.builtin "BaseException.__getattribute__" == Value.builtin "object.__getattribute__") = true then _ else _) _ _ _
  rw [n1, if_neg Bool.false_ne_true]
  unfold getAttrByItsOwn hookBefore
  refine wpAny_bind ?_
  rw [if_pos (show onTheHeap (Value.ref D) = true from rfl)]
  refine l2.at (wpAny_bind (wpAny_attempt
    (wpAny_holding ?_)))
  unfold callGetattribute
  rw [n0, if_neg Bool.false_ne_true]
  unfold boundAndCalled
  rw [PySem.F.excAttr_ValueError.ga.bind (.ref x)]
  refine wpAny_bind
    (wpAny_pure ?_)
  show wpAny _ _ (call (.builtin "BaseException.__getattribute__") [.ref x, .str "__class__" t]) _ _ _
  refine wpAny_call (codeAny_call_builtin PySem.F.excAttr_ValueError.ga.plain PySem.F.entry_bexc_ga (@check_slot (model prog w) _ _ ⟨hp, g, d, t + 1, os⟩ "BaseException.__getattribute__" "BaseException" "__getattribute__" (.ref x) [.str "__class__" t] [] _ (by decide +kernel) (by decide +kernel) isE (PySem.F.args_bexc_ga (.ref x) (.str "__class__" t)) ?_))
  unfold Builtin.«object.__getattribute__»
  refine wpAny_bind (wpAny_of_eq (a := ((Value.ref x : Value), [Value.str "__class__" t])) (by first | rfl | (simp only [slotArgs]; rfl)) ?_)
  refine wpAny_bind (wpAny_pure
    (wpAny_bind (l0.at (wpAny_bind (l3.at ?_)))))
  show wpAny _ _ (holding [Value.builtin "object.__class__"] (call (.builtin "getset_descriptor.__get__") [.builtin "object.__class__", .ref x, .ref D]) >>= ret) _ _ _
  refine wpAny_bind (wpAny_holding ?_)
  refine wpAny_call (class_get (s := ⟨hp, g, d, t + 1, os⟩) (ox := ox) (od := od) X I T.hm ?_)
  refine wpAny_pure ?_
  show wpAny _ _ (handedOut (.ref D)) _ _ _
  rw [handedOut_of (v := .ref D) rfl]
  first
    | exact wpAny_pure h
    | exact wpAny_pure (wpAny_pure h)
    | exact wpAny_pure (wpAny_bind (wpAny_pure (wpAny_pure h)))
theorem cls_entry {K : PySem.W.Frag} {D : Addr} (T : ExcC K D) : ∃ c d cd sl, K.lookup D = some ⟨c, d, .cls cd, sl⟩ := by
  rcases any_some T.hd with ⟨cdD, q, _⟩
  unfold clsIn at q
  split at q
  · rename_i c d cd sl ho
    exact ⟨c, d, cd, sl, ho⟩
  · cases q
theorem kit_err {K : PySem.W.Frag} {x D : Addr} {ox : Obj} (T : ExcC K D) : KitX K (.ref x) (.ref D) (fun h => ∃ od, PySem.W.InstAt h x ox D od) where
  ty := fun _ _ _ ⟨_, I⟩ => I.type
  it := fun _ _ X _ => by
    rcases cls_entry T with ⟨c, d, cd, sl, q⟩
    intro A' Q' E' s' k z
    unfold isType loadHead
    exact wpAny_bind (wpAny_loadPart (k _ _ (X _ _ q)) (wpAny_pure z))
  ne := fun h tp dd its n sl X htp => by
    refine Bool.eq_false_iff.mpr fun z => ?_
    have e : D = tp := Value.ref.inj (beq_iff_eq.mp z)
    subst e
    rcases cls_entry T with ⟨c, d, cd, sl', q⟩
    cases (X _ _ q).symm.trans htp
  ca := fun X ⟨_, I⟩ k => cls_of_err T X I k
end
/-- isinstance(e, c), e the caught error of class D, its dict at dx -/
def rIsD (K : PySem.W.Frag) (D a dx : Addr) : List V → Hp → VK → Prop := fun xs H Q => ∃ (c : V) (cv : Value) (b : Bool) (fs : List (Str × V)), xs = [.ref a, c] ∧ (∀ u, RelV c u → u = cv) ∧ H dx = some (.xd fs) ∧ PySem.W.kitOne K (.ref D) cv = some b ∧ Q (.bl b) H
theorem call_isD {a dx : Addr} {e : Ex} {oe : Obj} {pn : List (Addr × Obj)} (T : ExcC X.K (He.ga X.K (Str.ofString e.cls))) (U : SuOk X a dx e oe) : CallR (X.suite a ((a, oe) :: pn)) (.builtin "isinstance") (rIsD X.K (He.ga X.K (Str.ofString e.cls)) a dx) := by
  intro pins s σ H xs us Q I r h
  rcases h with ⟨c, cv, b, fs, rfl, hcv, hd, q1, q⟩
  cases r with
  | cons rx rr =>
    cases rr with
    | cons rt rr =>
      cases rr
      cases rx
      have ec := hcv _ rt
      subst ec
      have at1 := (I.pin (a, oe) (List.mem_append.mpr (.inl List.mem_cons_self))).1
      rcases U.f with ⟨vs, hv⟩
      have hx : ObjOk X.prog X.w H s.heap dx (.xd fs) := I.hok dx _ hd
      rcases hx with ⟨mA, ⟨od, es, ep, ho, hr⟩, _⟩
      have J : PySem.W.InstAt s.heap a oe (He.ga X.K (Str.ofString e.cls)) (some od) := by
        refine ⟨at1, U.z.1, ?_, ?_⟩
        · unfold PySem.W.notCls
          rw [hv]
        · rw [U.z.2.1]
          exact ho
      exact PySem.W.kia_one (kit_err T) I.kIn ⟨_, J⟩ q1 (fun z => nomatch z) fun tk => ⟨.bl b, H, I.kept (t' := tk) fun _ _ z => z, rfl, q⟩
/-! in the suite: the error's fields, isinstance of it -/
theorem e_xfld (i : Nat) {a dx : Addr} {e : Ex} {oe : Obj} {pn : List (Addr × Obj)} {W' : WX} {g : Bool} {ρ : List Slot} {kn : List String} {f : String} {x : Str} {pos p2 : Pos} (EK : ExmK X.K X.mg kn) (U : SuOk X a dx e oe) (hk : e.cls ∈ kn)
    (hno : PySem.W.findIn X.K (.ref (He.ga X.K (Str.ofString e.cls))) (Str.ofString f) = some none) (hr : ρ[i]? = some (.val XV ⟨a, dx, e⟩) := by rfl)
    (hN : X.N[i]? = some x := by rfl) (hv : Vis X.env.scope x := by first | exact Or.inl rfl | exact Or.inr (Or.inl rfl) | exact Or.inr (Or.inr rfl)) (hd : (x == ("__debug__" : Str)) = false := by decide) (hcd : (x == ("__classdict__" : Str)) = false := by decide)
    (hbase : attributeBase (.Name x p2) (Str.ofString f) X.env (eval (.Name x p2) X.env) = eval (.Name x p2) X.env := by rfl) : EG (X.suite a ((a, oe) :: pn)) W' g ρ (.Attribute (.Name x p2) (Str.ofString f) pos) (fldD e f) := by
  refine ⟨_, pe_xf (EK.xf _ hk) hno U.z.zc U.f (pe_var (X := X.suite a ((a, oe) :: pn)) hN hv hd hcd) hbase, fun S own σ H Q rs h => ?_⟩
  obtain ⟨ads, r, _, _⟩ := rs.rs
  obtain ⟨u, eu, q⟩ := r.val_at hr
  obtain ⟨rfl, fs, q3, q4⟩ := q
  refine ⟨_, eu, rfl, rfl, dx, fs, ?_⟩
  have key : ∀ {fs : List (Str × V)} {es : List (String × PyData)}, Paired (fun (p : Str × V) (q : String × PyData) => p.1 = Str.ofString q.1 ∧ Dp X.K (hide (S ++ own) H) p.2 q.2) fs es → ∀ d, es.lookup f = some d → ∃ v, fs.lookup (Str.ofString f) = some v ∧ Dp X.K (hide (S ++ own) H) v d := by
    intro fs es h
    induction h with
    | nil => intro d z; cases z
    | @cons p q fs es hpq _ ih =>
      intro d z
      obtain ⟨h1, h2⟩ := hpq
      by_cases c : f = q.1
      · subst c
        have z' : List.lookup q.1 ((q.1, q.2) :: es) = some d := z
        simp [List.lookup] at z'
        subst z'
        exact ⟨p.2, by rw [show p = (p.1, p.2) from rfl, h1]; simp [List.lookup], h2⟩
      · have c1 : (f == q.1) = false := by simpa using c
        have z' : List.lookup f ((q.1, q.2) :: es) = some d := z
        rw [List.lookup, c1] at z'
        obtain ⟨v, e1, e2⟩ := ih d z'
        refine ⟨v, ?_, e2⟩
        have c2 : (Str.ofString f == p.1) = false := by
          rw [h1]
          have ne : Str.ofString f ≠ Str.ofString q.1 := fun z => c (ofString_inj z)
          simpa using ne
        show List.lookup (Str.ofString f) ((p.1, p.2) :: fs) = _
        rw [List.lookup, c2]
        exact e1
  unfold fldD at h
  cases hl : e.fs.lookup f with
  | none => rw [hl] at h; exact h.elim
  | some d =>
    rw [hl] at h
    obtain ⟨v, e1, e2⟩ := key q4 d hl
    refine ⟨v, rfl, hide_sub _ _ q3, e1, h H v (Same.refl H) (Rp.mono (T := PD) (hide_mono reg_sub) e2)⟩
theorem e_isx (i : Nat) {a dx : Addr} {e : Ex} {oe : Obj} {pn : List (Addr × Obj)} {W' : WX} {g : Bool} {ρ : List Slot} {kn : List String} {c : String} {x : Str} {p p2 p3 pos : Pos} (EK : ExmK X.K X.mg kn) (U : SuOk X a dx e oe) (hk : e.cls ∈ kn) (hm : X.mg "isinstance" = none)
    (hr : ρ[i]? = some (.val XV ⟨a, dx, e⟩) := by rfl) (hc : c ∈ "Fault" :: kn := by decide)
    (hN : X.N[i]? = some x := by rfl) (hv : Vis X.env.scope x := by first | exact Or.inl rfl | exact Or.inr (Or.inl rfl) | exact Or.inr (Or.inr rfl)) (hd : (x == ("__debug__" : Str)) = false := by decide) (hcd : (x == ("__classdict__" : Str)) = false := by decide)
    (hg : Gl X "isinstance" := by rfl) (hg2 : Gl X (Str.ofString c) := by rfl) (hdb : ((Str.ofString c) == ("__debug__" : Str)) = false := by decide)
    (he : starEach [.Name x p2, .Name (Str.ofString c) p3] X.env = (false, eval (.Name x p2) X.env) :: starEach [.Name (Str.ofString c) p3] X.env := by rfl) (he2 : starEach [.Name (Str.ofString c) p3] X.env = (false, eval (.Name (Str.ofString c) p3) X.env) :: starEach [] X.env := by rfl)
    (hpl : (backTo pos (starEach [.Name (Str.ofString c) p3] X.env)).any (·.1) = false := by rfl) :
    EG (X.suite a ((a, oe) :: pn)) W' g ρ (.Call (.Name "isinstance" p) [.Name x p2, .Name (Str.ofString c) p3] [] pos) (.ok (catches c e.cls)) := by
  refine ⟨_, pe_callB (X := X.suite a ((a, oe) :: pn)) (call_isD (EK.isc _ hk) U) hg hm (by decide +kernel) (pa_cons (pe_var (X := X.suite a ((a, oe) :: pn)) hN hv hd hcd) (pa_cons (pe_glob (X := X.suite a ((a, oe) :: pn)) (v := .ref (He.ga X.K (Str.ofString c))) hg2 (EK.gl c hc) rfl hdb) pa_nil he2) he) (by decide) (by decide) he hpl, fun S own σ H Q rs h => ?_⟩
  obtain ⟨ads, r, _, _⟩ := rs.rs
  obtain ⟨u, eu, q⟩ := r.val_at hr
  obtain ⟨rfl, fs, q3, q4⟩ := q
  exact ⟨_, eu, _, _, _, fs, rfl, fun u z => z, hide_sub _ _ q3, EK.kit _ hk c hc, h H _ (Same.refl H) rfl⟩
theorem e_isV (i : Nat) {a dx : Addr} {e : Ex} {oe : Obj} {pn : List (Addr × Obj)} {W' : WX} {g : Bool} {ρ : List Slot} {kn : List String} {x : Str} {p p2 p3 pos : Pos} (EK : ExmK X.K X.mg kn) (U : SuOk X a dx e oe) (hk : e.cls ∈ kn) (hm : X.mg "isinstance" = none) (hmV : X.mg "ValueError" = none)
    (hr : ρ[i]? = some (.val XV ⟨a, dx, e⟩) := by rfl)
    (hN : X.N[i]? = some x := by rfl) (hv : Vis X.env.scope x := by first | exact Or.inl rfl | exact Or.inr (Or.inl rfl) | exact Or.inr (Or.inr rfl)) (hd : (x == ("__debug__" : Str)) = false := by decide) (hcd : (x == ("__classdict__" : Str)) = false := by decide)
    (hg : Gl X "isinstance" := by rfl) (hg2 : Gl X "ValueError" := by rfl)
    (he : starEach [.Name x p2, .Name "ValueError" p3] X.env = (false, eval (.Name x p2) X.env) :: starEach [.Name "ValueError" p3] X.env := by rfl) (he2 : starEach [.Name "ValueError" p3] X.env = (false, eval (.Name "ValueError" p3) X.env) :: starEach [] X.env := by rfl)
    (hpl : (backTo pos (starEach [.Name "ValueError" p3] X.env)).any (·.1) = false := by rfl) :
    EG (X.suite a ((a, oe) :: pn)) W' g ρ (.Call (.Name "isinstance" p) [.Name x p2, .Name "ValueError" p3] [] pos) (.ok true) := by
  refine ⟨_, pe_callB (X := X.suite a ((a, oe) :: pn)) (call_isD (EK.isc _ hk) U) hg hm (by decide +kernel) (pa_cons (pe_var (X := X.suite a ((a, oe) :: pn)) hN hv hd hcd) (pa_cons (pe_bltn (X := X.suite a ((a, oe) :: pn)) (v := .ty "ValueError") hg2 hmV PyProof.Rows.Boot.«ValueError» rfl) pa_nil he2) he) (by decide) (by decide) he hpl, fun S own σ H Q rs h => ?_⟩
  obtain ⟨ads, r, _, _⟩ := rs.rs
  obtain ⟨u, eu, q⟩ := r.val_at hr
  obtain ⟨rfl, fs, q3, q4⟩ := q
  exact ⟨_, eu, _, _, _, fs, rfl, fun u z => z, hide_sub _ _ q3, EK.kitV _ hk, h H _ (Same.refl H) rfl⟩
end
end Py

set_option Elab.async false
set_option linter.all false
set_option maxRecDepth 100000
set_option maxHeartbeats 4000000
/-! Py, part X4: defs called in an except suite; the facts of the classes. -/
namespace Py
open PySem PySem.Spec L2
open Rp (rp)
theorem quiet_any {α : Type} {m : Res α} {Q Q' : α → Prop} {E E' : Ex → Prop} (h : Post m.quiet Q E) (k : ∀ a, Q a → Q' a) : Post m.quiet Q' E' := by
  cases m with
  | ok a => exact k a h
  | err e => exact h.elim
  | bad => exact h.elim
structure CtxH (X : Cx) (lv : Nat) : Prop where
  nd : X.N.Nodup
  hot : L2H.HotC X
  room : L2H.RoomH lv X.A
structure FHk (P : Program) (w : World) (K : PySem.W.Frag) (mg : Str → Option Value) (base : Heap) (name : Str) (k : Nat) (sp : Sp) : Prop where
  ok : ∃ fd ps, L2H.FnH P w K mg base (L2N.CX P w) k (He.ga K name) fd ps sp ∧ Binds K fd ps []
  kp : PySem.W.keepIn K (.ref (He.ga K name)) = true
  gl : mg name = some (.ref (He.ga K name))
abbrev fcxh (P : Program) (w : World) (K : PySem.W.Frag) (mg : Str → Option Value) (base : Heap) (N : List Str) (qual : Str) (scope : Scope) (f : Addr) (cdv : Value) (A : Around) (outer : List Env) (s : Shared) (H : Hp) (E : XK) (p : Addr × Obj) : Cx :=
  L2H.cxH (L2N.CX P w) P w K mg base N qual scope f cdv A outer s H E p
section
variable {P : Program} {w : World} {K : PySem.W.Frag} {mg : Str → Option Value} {base : Heap} {x qual : Str} {params : Arguments} {body : List Stmt} {scope : Scope} {kws : List (Str × V)} {fd : FuncData} {N ps : List Str} {k : Nat} {A : Type} {as : A → List AV}
theorem fokh_data {R : Type} [Rp R] {f : A → Res R} {ρ0 : A → List Slot} (F : FunD K x qual params body scope [] kws (He.ga K x) fd) (hgl : mg x = some (.ref (He.ga K x))) (S : FnScope N ps scope) (hb : Binds K fd ps []) (hl : ∀ u, (as u).length = ps.length := by intro _; rfl)
    (h0 : ∀ u, ρ0 u = (as u).map AV.slot ++ List.replicate (N.length - ps.length) .non := by intro _; rfl)
    (d : ∀ cdv A outer s H E p, CtxH (fcxh P w K mg base N qual scope (He.ga K x) cdv A outer s H E p) k → ∀ u, SR (fcxh P w K mg base N qual scope (He.ga K x) cdv A outer s H E p) (fun _ _ _ _ => False) none (ρ0 u) body (retD R) (f u)) :
    FHk P w K mg base x (k + 1) (spOf K as fun u => (f u).quiet) := by
  have lenq : ∀ vs H Q E, spOf K as (fun u => (f u).quiet) vs H Q E → vs.length = ps.length := fun vs H Q E h => by
    obtain ⟨S', u, _, r, _⟩ := h
    rw [r.length, hl]
  obtain ⟨oc, od, dV, kV, doc, pm, an, cdv, ct, osl, rfl, lk, hcd, _, _⟩ := F.ex
  refine ⟨⟨_, ps, L2H.fn_ofH lk hcd S lenq (fun A outer s H vs Q E p hot hr h => ?_), hb⟩, F.kp, hgl⟩
  obtain ⟨S', u, hd, r, hp⟩ := h
  obtain ⟨t, pt, q⟩ := (d cdv A outer s H E p ⟨S.nd, ⟨p, hot, List.mem_singleton.mpr rfl⟩, hr⟩ u).ex
  refine ⟨t, pt, q S' [] _ H _ ?_ ((hp.quiet_to (E' := fun _ => False)).imp (fun y hy v σ' H' own' x' _ z => hy H' v x'.nil_same (Rp.mono (hide_mono fun b hb => List.mem_append_left _ hb) z)) fun e he => he.elim)⟩
  rw [h0, ← hl u, ← r.length]
  exact rs_start r hd
end
section
variable {X : Cx} {W : WX} {g : Bool} {ρ : List Slot} {A R : Type} [Rp R] {a : Expr} {pos : Pos} {lv : Nat}
theorem passH {σ : St} (hxe : True) : PassesAt (L2N.CX X.prog X.w) X σ (fun _ _ _ => False) := fun _ _ _ _ _ _ q => by
  rcases q with ⟨_, _, _, _, _, _, _, _, _, _, _, _, z⟩
  exact z.elim
theorem e_callh {x : Str} {p : Pos} {es : List Expr} {as : A → List AV} {f : A → Res R} {m : Res R} {k : Nat} (C : CtxH X lv) (F : FHk X.prog X.w X.K X.mg X.base x k (spOf X.K as fun u => (f u).quiet)) (ha : AJ X W true ρ (a :: es) as (fun u => (f u).quiet) m) (hk : k ≤ lv := by decide)
    (hg : Gl X x := by rfl) (hdb : (x == ("__debug__" : Str)) = false := by decide) (he : starEach (a :: es) X.env = (false, eval a X.env) :: starEach es X.env := by rfl) (hpl : (backTo pos (starEach es X.env)).any (·.1) = false := by rfl) :
    EG X W true ρ (.Call (.Name x p) (a :: es) [] pos) m := by
  obtain ⟨t, pa, qa⟩ := ha.ex
  obtain ⟨fd, ps, F1, F2⟩ := F.ok
  refine ⟨_, L2H.pe_callH (E := fun _ _ _ _ => False) F1 (C.room.mono hk) C.hot hg F.gl F.kp F2 (fun σ => passH trivial) pa hdb he hpl, fun S own σ H Q rs h => ?_⟩
  refine qa S own σ H _ _ _ rs (fun e z => z) h fun x vs H' s r hx => ⟨S ++ own, x, (rs.mono s).dom, r, ?_⟩
  exact quiet_any hx fun y hy H2 v s2 r2 => hy H2 v (s.trans s2) r2
/-- a suite's context -/
theorem CtxOk.suite {a dx : Addr} {e : Ex} {oe : Obj} {pn : List (Addr × Obj)} (C : CtxOk X W lv) (U : SuOk X a dx e oe) : CtxH (X.suite a ((a, oe) :: pn)) lv := by
  obtain ⟨vs, hv⟩ := U.f
  exact ⟨C.nd, ⟨(a, oe), ⟨rfl, vs, hv, U.z.2.2 vs hv⟩, List.mem_cons_self⟩, ⟨C.room.dp, C.room.un⟩⟩
end
/-! ### the facts -/
def iscB (K : PySem.W.Frag) (D : Addr) : Bool :=
  decide (PySem.W.findIn K (.ref D) "__getattribute__" = some (some (.builtin "BaseException.__getattribute__"))) && (decide (PySem.W.findIn K (.ref D) "__getattr__" = some none) && (decide (PySem.W.subIn K (.ref D) (.type "BaseException") = some true) && (PySem.W.hasDictIn K D &&
  (decide (PySem.W.findIn K (.ref D) "__class__" = some (some (.builtin "object.__class__"))) && (decide (PySem.W.specialIn K (.builtin "object.__class__") "__get__" = some (some (.builtin "getset_descriptor.__get__"))) && (decide (PySem.W.takesIn K (.builtin "object.__class__") = some true) &&
  decide (PySem.W.mroIn K D (.type "object") = some true)))))))
theorem iscB_ok {K : PySem.W.Frag} {D : Addr} (h : iscB K D = true) : ExcC K D := by
  obtain ⟨h1, h⟩ := He.ba h
  obtain ⟨h2, h⟩ := He.ba h
  obtain ⟨h3, h⟩ := He.ba h
  obtain ⟨h4, h⟩ := He.ba h
  obtain ⟨h5, h⟩ := He.ba h
  obtain ⟨h6, h⟩ := He.ba h
  obtain ⟨h7, h8⟩ := He.ba h
  exact ⟨of_decide_eq_true h1, of_decide_eq_true h2, of_decide_eq_true h3, h4, of_decide_eq_true h5, of_decide_eq_true h6, of_decide_eq_true h7, of_decide_eq_true h8⟩
def exmB (K : PySem.W.Frag) (kn : List String) : Bool :=
  kn.all fun x => (("Fault" :: kn).all fun c => decide (PySem.W.exmOne K (.ref (He.ga K (Str.ofString x))) (.ref (He.ga K (Str.ofString c))) = some (catches c x)) && decide (PySem.W.kitOne K (.ref (He.ga K (Str.ofString x))) (.ref (He.ga K (Str.ofString c))) = some (catches c x))) &&
    (xfB K (He.ga K (Str.ofString x)) && (decide (PySem.W.kitOne K (.ref (He.ga K (Str.ofString x))) (.type "ValueError") = some true) && iscB K (He.ga K (Str.ofString x))))
theorem exmB_ok {K : PySem.W.Frag} {mg : Str → Option Value} {kn : List String} (h : exmB K kn = true) (hg : ∀ c ∈ "Fault" :: kn, mg (Str.ofString c) = some (.ref (He.ga K (Str.ofString c)))) : ExmK K mg kn := by
  have h' := List.all_eq_true.mp h
  refine ⟨fun x hx c hc => ?_, hg, fun x hx => ?_, fun x hx c hc => ?_, fun x hx => ?_, fun x hx => ?_⟩
  · exact of_decide_eq_true (He.ba (List.all_eq_true.mp (He.ba (h' x hx)).1 c hc)).1
  · exact xfB_ok (He.ba (He.ba (h' x hx)).2).1
  · exact of_decide_eq_true (He.ba (List.all_eq_true.mp (He.ba (h' x hx)).1 c hc)).2
  · exact of_decide_eq_true (He.ba (He.ba (He.ba (h' x hx)).2).2).1
  · exact iscB_ok (He.ba (He.ba (He.ba (h' x hx)).2).2).2
end Py

set_option Elab.async false
set_option linter.all false
set_option maxRecDepth 100000
set_option maxHeartbeats 4000000
/-! Py, part S: texts, chains, membership. -/
namespace Py
open PySem PySem.Spec L2
open Rp (rp)
def catS (x y : Str) : Res Str := guardR (decide (x.length + y.length ≤ sizeLine)) (.ok (x ++ y))
def inS (x z : Str) : Res Bool := match x.cps.toList with
  | [c] => .ok (decide (c ∈ z.cps.toList))
  | _ => .bad
def mulS (x : Str) (n : Int) : Res Str := guardR (decide (1 < n) && (decide (n ≤ 1048576) && (decide (0 < x.length) && decide (x.length * n.toNat ≤ 1048576)))) (.ok ⟨(List.replicate n.toNat x.cps).foldl (· ++ ·) #[]⟩)
def joinS (a : Str) (ys : List Str) : Res Str := guardR (decide ((ys.map (·.length)).sum + ys.length * a.length ≤ 16777216)) (.ok (Txt.join a ys))
def intS (a : Str) : Res Int := match PySem.intText? a with
  | some n => guardR (decide (a.length ≤ 640)) (.ok n)
  | none => .bad
theorem one_sign {x : Str} {c : Nat} (h : x.cps.toList = [c]) : x = ⟨#[c]⟩ := by
  obtain ⟨⟨l⟩⟩ := x
  have e : l = [c] := h
  rw [e]
section
variable {X : Cx} {W : WX} {g : Bool} {ρ : List Slot} {a b c e : Expr} {pos : Pos} {lv : Nat}
theorem e_catS {ma mb : Res Str} (ha : EG X W true ρ a ma) (hb : EG X W true ρ b mb) : EG X W g ρ (.BinOp a .Add b pos) (ma.bind fun x => mb.bind fun y => catS x y) :=
  e_binR (f := catS) op_add_str ha hb (fun _ _ H x y v u Q r1 r2 h => ⟨x, y, r1, r2, of_decide_eq_true h.guard.1, h.guard.2 _ rfl⟩) (fun _ _ e => guard_ne e)
theorem op_mulS : OpR X (binaryOp .Mult) (fun x y H Q => ∃ i n, x = .str i ∧ y = .int n ∧ (1 < n ∧ n ≤ 1048576 ∧ 0 < i.length ∧ i.length * n.toNat ≤ 1048576) ∧ Q (.str ⟨(List.replicate n.toNat i.cps).foldl (· ++ ·) #[]⟩) H) := by
  intro pins s σ H x y v u Q I rx ry h
  obtain ⟨i, n, rfl, rfl, ⟨h1, h2, h3, h4⟩, q⟩ := h
  obtain ⟨t, rfl⟩ := rx
  obtain ⟨t', rfl⟩ := ry
  have nn : ¬ (n == 1 || i.length == 0) = true := by
    simp only [Bool.or_eq_true, beq_iff_eq]
    omega
  refine P.mul_str ?_ (fun _ _ => ?_) (fun _ _ => ?_) ?_
  · rw [decide_eq_false (show ¬ n < -(2 ^ 63 : Int) by omega), decide_eq_false (show ¬ n ≥ 2 ^ 63 by omega)]
    rfl
  · have l1 : i.length ≤ 1048576 := Nat.le_trans (Nat.le_mul_of_pos_right _ (by omega)) h4
    have l2 : (8796093022207 : Int) ≤ (2 ^ 63 - 1) / n := (Int.le_ediv_iff_mul_le (by omega)).mpr (by omega)
    omega
  · exact decide_eq_false (by rw [sizeLine_eq]; omega)
  · rw [if_neg (by omega), if_neg nn]
    refine ⟨fits_reps (decide_eq_false (by rw [sizeLine_eq]; omega)), .str _, H, I.tok _, ⟨_, rfl⟩, q⟩
theorem e_mulS {ma : Res Str} {mb : Res Int} (ha : EG X W true ρ a ma) (hb : EG X W true ρ b mb) : EG X W g ρ (.BinOp a .Mult b pos) (ma.bind fun x => mb.bind fun y => mulS x y) :=
  e_binR (f := mulS) op_mulS ha hb (fun _ _ H x y v u Q r1 r2 h => by
    obtain ⟨h1, h2⟩ := h.guard
    simp only [Bool.and_eq_true, decide_eq_true_eq] at h1
    exact ⟨x, y, r1, r2, h1, h2 _ rfl⟩) (fun _ _ e => guard_ne e)
theorem inS_ne (x z : Str) (e : Ex) : inS x z ≠ .err e := by
  unfold inS
  split <;> intro h <;> cases h
theorem e_inS {ma mb : Res Str} (ha : EG X W true ρ a ma) (hb : EG X W true ρ b mb) (hm : behindInMarks .In b = false := by rfl) : CJ X W ρ .In a b (ma.bind fun x => mb.bind fun y => inS x y) :=
  e_cmpR (f := inS) op_in_sign hm ha hb (fun _ _ H x y v u Q r1 r2 h => by
    unfold inS at h
    split at h
    · rename_i c hc
      exact ⟨c, y, by rw [r1, one_sign hc], r2, h⟩
    · exact h.elim)
theorem e_ninS {ma mb : Res Str} (ha : EG X W true ρ a ma) (hb : EG X W true ρ b mb) (hm : behindInMarks .NotIn b = false := by rfl) : CJ X W ρ .NotIn a b (ma.bind fun x => mb.bind fun y => (inS x y).bind fun k => .ok (!k)) :=
  e_cmpR (f := fun x y => (inS x y).bind fun k => .ok (!k)) op_notIn_sign hm ha hb (fun _ _ H x y v u Q r1 r2 h => by
    unfold inS at h
    split at h
    · rename_i c hc
      exact ⟨c, y, by rw [r1, one_sign hc], r2, h⟩
    · exact h.elim)
theorem e_join {mo : Res Str} {ml : Res (List Str)} {p2 : Pos} (ho : EG X W true ρ a mo) (hl : LG X W ρ e ml) (hs : starEach [e] X.env = [(false, eval e X.env)] := by rfl) (hbase : attributeBase a "join" X.env (eval a X.env) = eval a X.env := by rfl) (hline : (p2.endLine == pos.line) = true := by rfl) :
    EG X W g ρ (.Call (.Attribute a "join" p2) [e] [] pos) (mo.bind fun x => ml.bind fun ys => joinS x ys) := by
  obtain ⟨to, po, qo⟩ := ho.ex
  obtain ⟨tl, pl, ql⟩ := hl.ex
  refine ⟨_, pe_join po pl hs hbase hline, fun S own σ H Q rs h => qo S own σ H _ rs (h.bind.imp (fun x hx H1 v s1 r1 => ⟨⟨x, r1⟩, ql S own σ H1 _ (rs.mono s1) (hx.bind.imp (fun ys hy H2 p vs s2 e1 e2 => ?_) fun _ z => z.mono s1)⟩) fun _ z => z)⟩
  obtain ⟨h1, hy⟩ := hy.guard
  refine ⟨x, p, ys, r1, rfl, .inl (.inl (.inl ?_)), of_decide_eq_true h1, hy H2 _ (s1.trans s2) rfl⟩
  have ev : ∀ {vs : List V} {ys : List Str}, RpAll X.K (hide (S ++ own) H2) vs ys → vs = ys.map V.str := by
    intro vs ys r
    induction r with
    | nil => rfl
    | cons r _ ih =>
      cases r
      rw [ih]
      rfl
  rw [← ev e2]
  exact e1
theorem e_find {mo ml : Res Str} {p2 : Pos} (ho : EG X W true ρ a mo) (hl : EG X W true ρ e ml) (hs : starEach [e] X.env = [(false, eval e X.env)] := by rfl) (hbase : attributeBase a "find" X.env (eval a X.env) = eval a X.env := by rfl) (hline : (p2.endLine == pos.line) = true := by rfl) :
    EG X W g ρ (.Call (.Attribute a "find" p2) [e] [] pos) (mo.bind fun x => ml.bind fun y => .ok (Txt.find x y)) := by
  obtain ⟨to, po, qo⟩ := ho.ex
  obtain ⟨tl, pl, ql⟩ := hl.ex
  refine ⟨_, pe_m1 F.slot_str_find F.type_str_find mt_find po pl hs hbase hline, fun S own σ H Q rs h => qo S own σ H _ rs (h.bind.imp (fun x hx H1 v s1 r1 => ⟨⟨x, r1⟩, ql S own σ H1 _ (rs.mono s1) (hx.bind.imp (fun y hy H2 u s2 r2 => ?_) fun _ z => z.mono s1)⟩) fun _ z => z)⟩
  exact ⟨x, y, r1, by rw [show u = V.str y from r2], hy H2 _ (s1.trans s2) rfl⟩
theorem e_intS {p : Pos} {ma : Res Str} (ha : EG X W true ρ a ma) (hm : X.mg "int" = none) (hg : Gl X "int" := by rfl)
    (he : starEach [a] X.env = (false, eval a X.env) :: starEach [] X.env := by rfl) (hpl : (backTo pos (starEach [] X.env)).any (·.1) = false := by rfl) : EG X W g ρ (.Call (.Name "int" p) [a] [] pos) (ma.bind fun x => intS x) :=
  bt_flat (f := intS) call_int_str hm ha (fun B1 H x v Q r h => by
    unfold intS at h
    split at h
    · rename_i n hn
      obtain ⟨h1, h2⟩ := h.guard
      exact ⟨x, n, by rw [show v = V.str x from r], hn, of_decide_eq_true h1, h2 _ rfl⟩
    · exact h.elim) (by decide +kernel) hg (by decide) (by decide) he hpl
def rCi (f : Int → Int → Bool) : R2 := fun x y H Q => ∃ i j, x = .int i ∧ y = .int j ∧ Q (.bl (f i j)) H
/-- a ≤ b op c, of ints -/
theorem chain_run {op op' : CmpOp} {f f' : Int → Int → Bool} {ma mb mc : Res Int} (ho : OpR X (compareOp op) (rCi f)) (ho' : OpR X (compareOp op') (rCi f'))
    (ha : EG X W true ρ a ma) (hb : EG X W true ρ b mb) (hc : EG X W true ρ c mc) (hm : lastMarks [op, op'] [b, c] = false) :
    EG X W g ρ (.Compare a [op, op'] [b, c] pos) (ma.bind fun x => mb.bind fun y => if f x y then mc.bind fun z => .ok (f' y z) else .ok false) := by
  obtain ⟨ta, pa, qa⟩ := ha.ex
  obtain ⟨tb, pb, qb⟩ := hb.ex
  obtain ⟨tc, pc, qc⟩ := hc.ex
  refine ⟨_, pe_chain ho ho' pa pb pc hm, fun S own σ H Q rs h => two_run (R' := fun v u H2 => rCi f v u H2 fun z H3 => ∃ k, z = V.bl k ∧ (if k = true then tc σ H3 fun w' H4 => rCi f' u w' H4 Q else Q (V.bl false) H3)) qa qb rs h fun x y v u H2 s r1 r2 hp => ?_⟩
  refine ⟨x, y, r1, r2, f x y, rfl, ?_⟩
  cases hf : f x y with
  | true =>
    rw [hf] at hp
    rw [if_pos rfl]
    have hp' : Post (mc.bind fun z => .ok (f' y z)) _ _ := hp
    exact qc S own σ H2 _ (rs.mono s) (hp'.bind.imp (fun z hz H4 w' s4 r4 => ⟨y, z, r2, r4, hz H4 _ (s.trans s4) rfl⟩) fun _ z => z.mono s)
  | false =>
    rw [hf] at hp
    rw [if_neg Bool.false_ne_true]
    have hp' : Post (Res.ok false) _ _ := hp
    exact hp' H2 _ s rfl
theorem chain_runT {op op' : CmpOp} {f f' : Int → Int → Bool} {ma mb mc : Res Int} (ho : OpR X (compareOp op) (rCi f)) (ho' : OpR X (compareOp op') (rCi f'))
    (ha : EG X W true ρ a ma) (hb : EG X W true ρ b mb) (hc : EG X W true ρ c mc) (hm : lastMarks [op, op'] [b, c] = false) :
    TJ X W ρ (.Compare a [op, op'] [b, c] pos) (ma.bind fun x => mb.bind fun y => if f x y then mc.bind fun z => .ok (f' y z) else .ok false) := by
  obtain ⟨ta, pa, qa⟩ := ha.ex
  obtain ⟨tb, pb, qb⟩ := hb.ex
  obtain ⟨tc, pc, qc⟩ := hc.ex
  refine ⟨_, pt_chain ho ho' pa pb pc hm, fun S own σ H Q rs h => two_run (R' := fun v u H2 => rCi f v u H2 fun z H3 => ∃ k, z = V.bl k ∧ (if k = true then tc σ H3 fun w' H4 => rCi f' u w' H4 (fun z' H5 => ∃ k', z' = V.bl k' ∧ Q k' H5) else (fun z' H5 => ∃ k', z' = V.bl k' ∧ Q k' H5) (V.bl false) H3)) qa qb rs h fun x y v u H2 s r1 r2 hp => ?_⟩
  refine ⟨x, y, r1, r2, f x y, rfl, ?_⟩
  cases hf : f x y with
  | true =>
    rw [hf] at hp
    rw [if_pos rfl]
    have hp' : Post (mc.bind fun z => .ok (f' y z)) _ _ := hp
    exact qc S own σ H2 _ (rs.mono s) (hp'.bind.imp (fun z hz H4 w' s4 r4 => ⟨y, z, r2, r4, _, rfl, hz H4 (s.trans s4)⟩) fun _ z => z.mono s)
  | false =>
    rw [hf] at hp
    rw [if_neg Bool.false_ne_true]
    have hp' : Post (Res.ok false) _ _ := hp
    exact ⟨_, rfl, hp' H2 s⟩
theorem t_lele {ma mb mc : Res Int} (ha : EG X W true ρ a ma) (hb : EG X W true ρ b mb) (hc : EG X W true ρ c mc) (hm : lastMarks [.LtE, .LtE] [b, c] = false := by with_unfolding_all rfl) :
    TJ X W ρ (.Compare a [.LtE, .LtE] [b, c] pos) (ma.bind fun x => mb.bind fun y => if decide (x ≤ y) then mc.bind fun z => .ok (decide (y ≤ z)) else .ok false) :=
  chain_runT (f := fun x y => decide (x ≤ y)) (f' := fun x y => decide (x ≤ y)) op_le op_le ha hb hc hm
theorem t_lelt {ma mb mc : Res Int} (ha : EG X W true ρ a ma) (hb : EG X W true ρ b mb) (hc : EG X W true ρ c mc) (hm : lastMarks [.LtE, .Lt] [b, c] = false := by with_unfolding_all rfl) :
    TJ X W ρ (.Compare a [.LtE, .Lt] [b, c] pos) (ma.bind fun x => mb.bind fun y => if decide (x ≤ y) then mc.bind fun z => .ok (decide (y < z)) else .ok false) :=
  chain_runT (f := fun x y => decide (x ≤ y)) (f' := fun x y => decide (x < y)) op_le op_lt ha hb hc hm
theorem e_lele {ma mb mc : Res Int} (ha : EG X W true ρ a ma) (hb : EG X W true ρ b mb) (hc : EG X W true ρ c mc) (hm : lastMarks [.LtE, .LtE] [b, c] = false := by with_unfolding_all rfl) :
    EG X W g ρ (.Compare a [.LtE, .LtE] [b, c] pos) (ma.bind fun x => mb.bind fun y => if decide (x ≤ y) then mc.bind fun z => .ok (decide (y ≤ z)) else .ok false) :=
  chain_run (f := fun x y => decide (x ≤ y)) (f' := fun x y => decide (x ≤ y)) op_le op_le ha hb hc hm
theorem e_lelt {ma mb mc : Res Int} (ha : EG X W true ρ a ma) (hb : EG X W true ρ b mb) (hc : EG X W true ρ c mc) (hm : lastMarks [.LtE, .Lt] [b, c] = false := by with_unfolding_all rfl) :
    EG X W g ρ (.Compare a [.LtE, .Lt] [b, c] pos) (ma.bind fun x => mb.bind fun y => if decide (x ≤ y) then mc.bind fun z => .ok (decide (y < z)) else .ok false) :=
  chain_run (f := fun x y => decide (x ≤ y)) (f' := fun x y => decide (x < y)) op_le op_lt ha hb hc hm
end
end Py

set_option Elab.async false
set_option linter.all false
set_option maxRecDepth 100000
set_option maxHeartbeats 4000000
/-! Py, part X5: what the classes' messages ask. -/
namespace Py
open PySem PySem.Spec L2
open Rp (rp)
def fmtC : V → Prop := fun y => ∃ i : Int, y = .int i ∧ i.natAbs.log2 < 1920
def noC : V → Prop := fun _ => True
def fmtOk (i : Int) : Bool := decide (i.natAbs.log2 < 1920)
theorem fmtOk_c (K : PySem.W.Frag) (H : Hp) (y : V) (v : Int) (r : rp K H y v) (h : fmtOk v = true) : fmtC y := ⟨v, r, of_decide_eq_true h⟩
theorem noC_c {T : Type} [Rp T] (K : PySem.W.Frag) (H : Hp) (y : V) (v : T) (r : rp K H y v) (h : (fun _ : T => true) v = true) : noC y := trivial
theorem app_len (x y : Str) : (x ++ y).length = x.length + y.length := by
  show (x.cps ++ y.cps).size = x.cps.size + y.cps.size
  simp
section
variable {p : Str} {a : Addr} {y : V} {H : Hp} {Q' : List V → Hp → Prop}
theorem hta_c {z : V} (k : ∀ ms : List V, ms.length ≤ 1000 → Q' ms H) : tCons (tC z) tNil (start ["self", p] [.ref a, y]) H Q' := k [z] (by show 1 ≤ 1000; decide)
theorem hta_2 {pre : Str} (hc : fmtC y) (h1 : pre.length ≤ 1000) (k : ∀ ms : List V, ms.length ≤ 1000 → Q' ms H) :
    tCons (fun σ H Q => tJs [tC (.str pre), tFmt (tVar 1)] Str.empty σ H fun out H1 => Q (.str out) H1) tNil (start ["self", p] [.ref a, y]) H Q' := by
  obtain ⟨i, rfl, hi⟩ := hc
  have l1 := PyProof.Rows.int_text_len_1921 hi
  have l0 : (Str.empty ++ pre).length ≤ 1000 := by rw [app_len, show Str.empty.length = 0 from rfl, Nat.zero_add]; exact h1
  refine ⟨pre, rfl, by rw [sizeLine_eq]; omega, .int i, rfl, .inr ⟨i, rfl, hi, ?_⟩⟩
  refine ⟨_, rfl, by rw [app_len, sizeLine_eq]; omega, ?_⟩
  exact k [_] (by show 1 ≤ 1000; decide)
theorem hta_3 {pre post : Str} (hc : fmtC y) (h1 : pre.length ≤ 1000) (h2 : post.length ≤ 1000) (k : ∀ ms : List V, ms.length ≤ 1000 → Q' ms H) :
    tCons (fun σ H Q => tJs [tC (.str pre), tFmt (tVar 1), tC (.str post)] Str.empty σ H fun out H1 => Q (.str out) H1) tNil (start ["self", p] [.ref a, y]) H Q' := by
  obtain ⟨i, rfl, hi⟩ := hc
  have l1 := PyProof.Rows.int_text_len_1921 hi
  have l0 : (Str.empty ++ pre).length ≤ 1000 := by rw [app_len, show Str.empty.length = 0 from rfl, Nat.zero_add]; exact h1
  refine ⟨pre, rfl, by rw [sizeLine_eq]; omega, .int i, rfl, .inr ⟨i, rfl, hi, ?_⟩⟩
  refine ⟨_, rfl, by rw [app_len, sizeLine_eq]; omega, post, rfl, by rw [app_len, app_len, sizeLine_eq]; omega, ?_⟩
  exact k [_] (by show 1 ≤ 1000; decide)
end
theorem CtxOk.units {X : Cx} {W : WX} {lv : Nat} (C : CtxOk X W lv) : X.A.units + 64 < cLine := by have := C.room.un; omega
theorem CtxH.units {X : Cx} {lv : Nat} (C : CtxH X lv) : X.A.units + 64 < cLine := by have := C.room.un; omega
section
variable {X : Cx} {W : WX} {ρ : List Slot} {a b : Expr}
theorem e_eqvU {m n : Res PD} (hu : X.A.units + 64 < cLine) (h : EG X W true ρ a m) (h2 : EG X W true ρ b n) : CJ X W ρ .Eq a b (m.bind fun x => n.bind fun y => eqvD x y) :=
  e_cmpR (f := eqvD) (op_eqD hu) (nomark _) h h2 (fun _ _ H x y v u Q r1 r2 hq => by
    obtain ⟨h1, hq⟩ := hq.guard
    rw [Bool.and_eq_true] at h1
    exact ⟨_, _, dp_same hide_sub r1, dp_same hide_sub r2, h1.1, h1.2, hq⟩)
theorem e_nevU {m n : Res PD} (hu : X.A.units + 64 < cLine) (h : EG X W true ρ a m) (h2 : EG X W true ρ b n) : CJ X W ρ .NotEq a b (m.bind fun x => n.bind fun y => (eqvD x y).bind fun k => .ok (!k)) :=
  e_cmpR (f := fun x y => (eqvD x y).bind fun k => .ok (!k)) (op_neD hu) (nomark _) h h2 (fun _ _ H x y v u Q r1 r2 hq => by
    obtain ⟨h1, hq⟩ := hq.bind.guard
    rw [Bool.and_eq_true] at h1
    exact ⟨_, _, dp_same hide_sub r1, dp_same hide_sub r2, h1.1, h1.2, hq⟩)
end
end Py

set_option Elab.async false
set_option linter.all false
set_option maxRecDepth 100000
set_option maxHeartbeats 4000000
/-! Py, part Q: a list or a tuple of items of one kind. -/
namespace Py
open PySem PySem.Spec L2
open Rp (rp)
structure Sq (T : Type) where
  t : Bool
  l : List T
instance {T : Type} [Rp T] : Rp (Sq T) where
  rp K H v x := match x with
    | ⟨true, l⟩ => rp K H v (Tup.mk l)
    | ⟨false, l⟩ => rp K H v l
  mono {K H H' v x} s h := by
    obtain ⟨t, l⟩ := x
    cases t with
    | true => exact Rp.mono (T := Tup _) s h
    | false => exact Rp.mono (T := List _) s h
section
variable {X : Cx} {W : WX} {g : Bool} {ρ : List Slot} {T U A B : Type} [Rp T] [Rp U] [Rp A] [Rp B] {a b e tg : Expr} {pos : Pos} {lv : Nat}
/-- where the answer is known, only its picture counts -/
theorem EG.as {x : A} {y : B} (h : EG X W g ρ e (.ok x)) (k : ∀ (K : PySem.W.Frag) (H : Hp) (v : V), rp K H v x → rp K H v y) : EG X W g ρ e (.ok y) := by
  obtain ⟨t, p, q⟩ := h.ex
  exact ⟨t, p, fun S own σ H Q rs hp => q S own σ H Q rs fun H' v s r => hp H' v s (k _ _ _ r)⟩
theorem EG.asE {ex : Ex} (h : EG X W g ρ e (.err ex : Res A)) : EG X W g ρ e (.err ex : Res B) := by
  obtain ⟨t, p, q⟩ := h.ex
  exact ⟨t, p, fun S own σ H Q rs hp => q S own σ H Q rs hp⟩
theorem EG.asB (h : EG X W g ρ e (.bad : Res A)) : EG X W g ρ e (.bad : Res B) := by
  obtain ⟨t, p, q⟩ := h.ex
  exact ⟨t, p, fun S own σ H Q rs hp => hp.elim⟩
theorem e_sqT {m : Res (Tup T)} (h : EG X W g ρ e m) : EG X W g ρ e (m.bind fun x => .ok (Sq.mk true x.l)) := by
  cases m with
  | ok x => exact h.as fun _ _ _ r => r
  | err z => exact h.asE
  | bad => exact h.asB
theorem e_sqL {m : Res (List T)} (h : EG X W g ρ e m) : EG X W g ρ e (m.bind fun x => .ok (Sq.mk false x)) := by
  cases m with
  | ok x => exact h.as fun _ _ _ r => r
  | err z => exact h.asE
  | bad => exact h.asB
theorem i_sq {m : Res (Sq T)} (h : EG X W true ρ e m) : IJ X W ρ tg e (m.bind fun x => .ok x.l) := by
  cases m with
  | ok x =>
    obtain ⟨t, l⟩ := x
    cases t with
    | true => exact i_tup (m := .ok (Tup.mk l)) (h.as fun _ _ _ r => r)
    | false => exact i_list (m := .ok l) (h.as fun _ _ _ r => r)
  | err z => exact i_list (m := .err z) h.asE
  | bad => exact i_list (m := .bad) h.asB
theorem e_ixsq {m : Res (Sq T)} {mi : Res Int} (h : EG X W true ρ a m) (hi : EG X W true ρ b mi) (hs : PlainIx b := by exact fun _ _ => rfl) : EG X W true ρ (.Subscript a b pos) (m.bind fun xs => mi.bind fun i => idxM xs.l i) := by
  cases m with
  | ok x =>
    obtain ⟨t, l⟩ := x
    cases t with
    | true => exact e_ixt (ma := .ok (Tup.mk l)) (h.as fun _ _ _ r => r) hi hs
    | false => exact e_ix (ma := .ok l) (EG.lg (h.as fun _ _ _ r => r)) hi hs
  | err z => exact e_ixt (ma := (.err z : Res (Tup T))) h.asE hi hs
  | bad => exact e_ixt (ma := (.bad : Res (Tup T))) h.asB hi hs
theorem f_listofsq {p : Pos} {m : Res (Sq T)} (h : EG X W true ρ a m) (hm : X.mg "list" = none) (hg : Gl X "list" := by rfl)
    (he : starEach [a] X.env = (false, eval a X.env) :: starEach [] X.env := by rfl) (hpl : (backTo pos (starEach [] X.env)).any (·.1) = false := by rfl) : FG X W ρ (.Call (.Name "list" p) [a] [] pos) (m.bind fun x => .ok x.l) := by
  cases m with
  | ok x =>
    obtain ⟨t, l⟩ := x
    cases t with
    | true => exact f_listoft (ma := .ok (Tup.mk l)) (h.as fun _ _ _ r => r) hm hg he hpl
    | false => exact f_listof (ma := .ok l) (EG.lg (h.as fun _ _ _ r => r)) hm hg he hpl
  | err z => exact f_listoft (ma := (.err z : Res (Tup T))) h.asE hm hg he hpl
  | bad => exact f_listoft (ma := (.bad : Res (Tup T))) h.asB hm hg he hpl
end
end Py

set_option Elab.async false
set_option linter.all false
set_option maxRecDepth 100000
set_option maxHeartbeats 4000000
/-! Py, part Z: zip of lists and tuples. -/
namespace Py
open PySem PySem.Spec L2
open Rp (rp)
/-- at a: an iterator of the list | tuple at l, at place n -/
def Ik (p : Bool) (h : Heap) (a l : Addr) (n : Nat) : Prop := if p then h.IsTupleIter a l n else h.IsListIter a l n
def Sk (p : Bool) (h : Heap) (a : Addr) (xs : Array Value) : Prop := if p then h.IsTuple a xs else h.IsList a xs
theorem Ik.at {p : Bool} {h h' : Heap} {a l : Addr} {n : Nat} (z : Ik p h a l n) (k : ∀ o, h.get? a = some o → h'.get? a = some o) : Ik p h' a l n := by
  cases p <;> (obtain ⟨o, e, r⟩ := z; exact ⟨o, k o e, r⟩)
theorem Sk.at {p : Bool} {h h' : Heap} {a : Addr} {xs : Array Value} (z : Sk p h a xs) (k : ∀ o, h.get? a = some o → h'.get? a = some o) : Sk p h' a xs := by
  cases p <;> (obtain ⟨o, e, r⟩ := z; exact ⟨o, k o e, r⟩)
theorem Ik.obj {p : Bool} {h : Heap} {a l : Addr} {n : Nat} (z : Ik p h a l n) : ∃ o vs, h.get? a = some o ∧ o.data = .fields vs := by
  cases p <;> (obtain ⟨o, e, _, d⟩ := z; exact ⟨o, _, e, d⟩)
theorem Sk.lt {p : Bool} {h : Heap} {a : Addr} {xs : Array Value} (z : Sk p h a xs) : a < h.objs.size := by
  cases p <;> (obtain ⟨o, e, _⟩ := z; exact Heap.lt_size e)
section
variable {prog : Program} {w : World} {A : Around} {E : Value → Shared → Prop} {s : Shared}
theorem draw_item {p : Bool} {i l : Addr} {n : Nat} {xs : Array Value} {x : Value} {Q : Value → Shared → Prop} (hi : Ik p s.heap i l n) (hl : Sk p s.heap l xs) (hx : xs[n]? = some x)
    (k : ∀ h', Ik p h' i l (n + 1) → Heap.SameBut i s.heap h' → Q x { s with heap := h' }) : wpAny (model prog w) A (Builtin.SmallTypes.nextOf (.ref i)) Q E s := by
  cases p with
  | true => exact wpAny_nextOf_tuple_item hi hl hx k
  | false => exact wpAny_nextOf_list_item hi hl hx k
theorem draw_end {p : Bool} {i l : Addr} {n : Nat} {xs : Array Value} {Q : Value → Shared → Prop} (hh : A.handled = none) (hi : Ik p s.heap i l n) (hl : Sk p s.heap l xs) (hx : xs[n]? = none)
    (k : ∀ h' e, Heap.ExtBut i s.heap h' → (∃ o, h'.get? e = some o ∧ o.cls = .type "StopIteration") → E (.ref e) { s with heap := h' }) : wpAny (model prog w) A (Builtin.SmallTypes.nextOf (.ref i)) Q E s := by
  cases p with
  | true => exact wpAny_nextOf_tuple_end hh hi hl hx k
  | false => exact wpAny_nextOf_list_end hh hi hl hx k
theorem zipk_item {p q : Bool} {z U V i j l m : Addr} {c d : Nat} {xs ys : Array Value} {x y a b : Value} {Q : Value → Shared → Prop} (ap : ZipApart z U V i j l m) (zz : IsZip s.heap z U V .none) (tu : IsPair s.heap U (.ref i) (.ref j))
    (tv : IsPair s.heap V a b) (di : Ik p s.heap i l c) (dj : Ik q s.heap j m d) (sl : Sk p s.heap l xs) (sm : Sk q s.heap m ys) (gx : xs[c]? = some x) (gy : ys[d]? = some y)
    (fin : ∀ h', IsZip h' z U V (rawInt s.heap.objs.size) → IsPair h' V x y → Ik p h' i l (c + 1) → Ik q h' j m (d + 1) → IsPair h' s.heap.objs.size x y → h'.objs.size = s.heap.objs.size + 1 →
      (∀ k o, k ≠ z → k ≠ V → k ≠ i → k ≠ j → s.heap.get? k = some o → h'.get? k = some o) → Q (.ref s.heap.objs.size) { s with heap := h' }) :
    wpAny (model prog w) A (Builtin.«zip.__next__» ⟨[.ref z], []⟩) (fun f s' => ∃ v, f = .done (.ret v) ∧ Q v s') E s := by
  show wpAny _ _ (field (.ref z) 2 >>= _) _ _ _
  refine wpAny_bind (wpAny_field zz rfl (x := .bool false) rfl ?_)
  show wpAny _ _ (field (.ref z) 3 >>= _) _ _ _
  refine wpAny_bind (wpAny_field zz rfl (x := .ref U) rfl (wpAny_bind (wpAny_seqItems tu rfl ?_)))
  show wpAny _ _ (Builtin.SmallTypes.ownedTupleIsFree (.ref z) >>= _) _ _ _
  unfold Builtin.SmallTypes.ownedTupleIsFree
  refine wpAny_bind (wpAny_bind (wpAny_field zz rfl (x := .none) rfl (wpAny_pure ?_)))
  simp only [if_true]
  refine wpAny_bind (wpAny_rule (wpAny_bind (wpAny_field zz rfl (x := .ref V) rfl (wpAny_bind (wpAny_setField_rec zz (by simp) fun g1 z1 e1 => ?_)))))
  have z1' : IsZip g1 z U V .ellipsis := z1
  refine wpAny_bind ?_
  simp only [List.zipIdx_cons, List.zipIdx_nil, List.forIn_cons, List.forIn_nil]
  refine wpAny_bind (wpAny_bind (wpAny_onRaise ?_))
  show wpAny _ _ (Builtin.SmallTypes.nextOf (.ref i) >>= _) _ _ _
  have x1 : ∀ {k : Addr} {o : Obj}, k ≠ z → s.heap.get? k = some o → g1.get? k = some o := fun n e => e1.extBut _ _ n e
  refine wpAny_bind (draw_item (di.at fun o e => x1 ap.i1z e) (sl.at fun o e => x1 ap.l1z e) gx fun g2 di2 e2 => wpAny_pure ?_)
  have x2 : ∀ {k : Addr} {o : Obj}, k ≠ z → k ≠ i → s.heap.get? k = some o → g2.get? k = some o := fun n n2 e => e2.extBut _ _ n2 (x1 n e)
  have tv2 : IsPair g2 V a b := x2 ap.TOz ap.TOi1 tv
  refine wpAny_bind (wpAny_seqItems tv2 rfl (wpAny_bind (wpAny_updateSeq_pair tv2 fun g3 tv3 e3 => wpAny_bind (wpAny_letGo (wpAny_pure ?_)))))
  have tv3' : IsPair g3 V x b := tv3
  refine wpAny_bind (wpAny_bind (wpAny_onRaise ?_))
  show wpAny _ _ (Builtin.SmallTypes.nextOf (.ref j) >>= _) _ _ _
  have x3 : ∀ {k : Addr} {o : Obj}, k ≠ z → k ≠ i → k ≠ V → s.heap.get? k = some o → g3.get? k = some o := fun n n2 n3 e => e3.extBut _ _ n3 (x2 n n2 e)
  refine wpAny_bind (draw_item (dj.at fun o e => x3 ap.i2z ap.i12.symm ap.TOi2.symm e) (sm.at fun o e => x3 ap.l2z ap.l2i1 ap.l2TO e) gy fun g4 dj4 e4 => wpAny_pure ?_)
  have tv4 : IsPair g4 V x b := e4.extBut _ _ ap.TOi2 tv3'
  refine wpAny_bind (wpAny_seqItems tv4 rfl (wpAny_bind (wpAny_updateSeq_pair tv4 fun g5 tv5 e5 => wpAny_bind (wpAny_letGo (wpAny_pure (wpAny_pure ?_))))))
  have tv5' : IsPair g5 V x y := tv5
  have sz : g5.objs.size = s.heap.objs.size := by rw [e5.1, e4.1, e3.1, e2.1, e1.1]
  have z5 : IsZip g5 z U V .ellipsis := e5.extBut _ _ ap.TOz.symm (e4.extBut _ _ ap.i2z.symm (e3.extBut _ _ ap.TOz.symm (e2.extBut _ _ ap.i1z.symm z1')))
  have x5 : ∀ k o, k ≠ z → k ≠ V → k ≠ i → k ≠ j → s.heap.get? k = some o → g5.get? k = some o := fun k o n1 n2 n3 n4 e => e5.extBut _ _ n2 (e4.extBut _ _ n4 (x3 n1 n3 n2 e))
  have di5 : Ik p g5 i l (c + 1) := di2.at fun o e => e5.extBut _ _ ap.TOi1.symm (e4.extBut _ _ ap.i12 (e3.extBut _ _ ap.TOi1.symm e))
  have dj5 : Ik q g5 j m (d + 1) := dj4.at fun o e => e5.extBut _ _ ap.TOi2.symm e
  have zl : z < g5.objs.size := Heap.lt_size z5
  refine wpAny_bind (wpAny_seqItems tv5' rfl (wpAny_bind (wpAny_newTuple ?_)))
  show wpAny _ _ (Builtin.SmallTypes.ownedTupleHandOut (.ref z) (.ref g5.objs.size) >>= _) _ _ _
  unfold Builtin.SmallTypes.ownedTupleHandOut
  have z6 : IsZip (g5.push { cls := .type "tuple", data := .seq #[x, y] }) z U V .ellipsis := Heap.get?_push_of_some _ z5
  refine wpAny_bind (wpAny_bind (wpAny_setField_rec z6 (by simp) fun g7 z7 e7 => ?_))
  have z7' : IsZip g7 z U V (rawInt g5.objs.size) := z7
  refine wpAny_setField_rec z7' (by simp) fun g8 z8 e8 => ?_
  have z8' : IsZip g8 z U V (rawInt g5.objs.size) := z8
  have x8 : ∀ {k : Addr} {o : Obj}, k ≠ z → g5.get? k = some o → g8.get? k = some o := fun n e => e8.extBut _ _ n (e7.extBut _ _ n (Heap.get?_push_of_some _ e))
  have t8 : IsPair g8 g5.objs.size x y := e8.extBut _ _ (Nat.ne_of_gt zl) (e7.extBut _ _ (Nat.ne_of_gt zl) (Heap.get?_push_size _ rfl))
  have s8 : g8.objs.size = g5.objs.size + 1 := by rw [e8.1, e7.1, Heap.size_push]
  rw [sz] at z8' t8 s8
  refine wpAny_pure ⟨_, rfl, ?_⟩
  show Q (.ref g5.objs.size) _
  rw [sz]
  exact fin g8 z8' (x8 ap.TOz tv5') (di5.at fun o e => x8 ap.i1z e) (dj5.at fun o e => x8 ap.i2z e) t8 s8 fun k o n1 n2 n3 n4 e => x8 n1 (x5 k o n1 n2 n3 n4 e)
theorem zipk_end {p q : Bool} {z U V i j l m : Addr} {c d : Nat} {xs ys : Array Value} {a b : Value} {Q : Fin → Shared → Prop} (hh : A.handled = none) (ap : ZipApart z U V i j l m) (zz : IsZip s.heap z U V .none) (tu : IsPair s.heap U (.ref i) (.ref j))
    (tv : IsPair s.heap V a b) (di : Ik p s.heap i l c) (dj : Ik q s.heap j m d) (sl : Sk p s.heap l xs) (sm : Sk q s.heap m ys) (stop : xs[c]? = none ∨ ys[d]? = none)
    (out : ∀ h' e, (∀ k o, k ≠ z → k ≠ V → k ≠ i → k ≠ j → s.heap.get? k = some o → h'.get? k = some o) → (∃ o, h'.get? e = some o ∧ o.cls = .type "StopIteration") → E (.ref e) { s with heap := h' }) :
    wpAny (model prog w) A (Builtin.«zip.__next__» ⟨[.ref z], []⟩) Q E s := by
  show wpAny _ _ (field (.ref z) 2 >>= _) _ _ _
  refine wpAny_bind (wpAny_field zz rfl (x := .bool false) rfl ?_)
  show wpAny _ _ (field (.ref z) 3 >>= _) _ _ _
  refine wpAny_bind (wpAny_field zz rfl (x := .ref U) rfl (wpAny_bind (wpAny_seqItems tu rfl ?_)))
  show wpAny _ _ (Builtin.SmallTypes.ownedTupleIsFree (.ref z) >>= _) _ _ _
  unfold Builtin.SmallTypes.ownedTupleIsFree
  refine wpAny_bind (wpAny_bind (wpAny_field zz rfl (x := .none) rfl (wpAny_pure ?_)))
  simp only [if_true]
  refine wpAny_bind (wpAny_rule (wpAny_bind (wpAny_field zz rfl (x := .ref V) rfl (wpAny_bind (wpAny_setField_rec zz (by simp) fun g1 z1 e1 => ?_)))))
  have z1' : IsZip g1 z U V .ellipsis := z1
  refine wpAny_bind ?_
  simp only [List.zipIdx_cons, List.zipIdx_nil, List.forIn_cons, List.forIn_nil]
  refine wpAny_bind (wpAny_bind (wpAny_onRaise ?_))
  show wpAny _ _ (Builtin.SmallTypes.nextOf (.ref i) >>= _) _ _ _
  have x1 : ∀ {k : Addr} {o : Obj}, k ≠ z → s.heap.get? k = some o → g1.get? k = some o := fun n e => e1.extBut _ _ n e
  cases gx : xs[c]? with
  | none =>
    refine wpAny_bind (draw_end hh (di.at fun o e => x1 ap.i1z e) (sl.at fun o e => x1 ap.l1z e) gx fun g2 e e2 he => ?_)
    obtain ⟨oe, h1, h2⟩ := he
    have z2 : IsZip g2 z U V .ellipsis := e2 _ _ ap.i1z.symm z1'
    have ne : e ≠ z := fun y => by subst y; rw [z2] at h1; cases h1; simp at h2
    exact wpAny_setField_rec z2 (by simp) fun g3 _ e3 => out g3 e (fun k o n1 _ n3 _ y => e3.extBut _ _ n1 (e2 _ _ n3 (x1 n1 y))) ⟨oe, e3.extBut _ _ ne h1, h2⟩
  | some x =>
    have gy : ys[d]? = none := stop.resolve_left fun y => by rw [gx] at y; cases y
    refine wpAny_bind (draw_item (di.at fun o e => x1 ap.i1z e) (sl.at fun o e => x1 ap.l1z e) gx fun g2 di2 e2 => wpAny_pure ?_)
    have x2 : ∀ {k : Addr} {o : Obj}, k ≠ z → k ≠ i → s.heap.get? k = some o → g2.get? k = some o := fun n n2 e => e2.extBut _ _ n2 (x1 n e)
    have tv2 : IsPair g2 V a b := x2 ap.TOz ap.TOi1 tv
    refine wpAny_bind (wpAny_seqItems tv2 rfl (wpAny_bind (wpAny_updateSeq_pair tv2 fun g3 tv3 e3 => wpAny_bind (wpAny_letGo (wpAny_pure ?_)))))
    refine wpAny_bind (wpAny_bind (wpAny_onRaise ?_))
    show wpAny _ _ (Builtin.SmallTypes.nextOf (.ref j) >>= _) _ _ _
    have x3 : ∀ {k : Addr} {o : Obj}, k ≠ z → k ≠ i → k ≠ V → s.heap.get? k = some o → g3.get? k = some o := fun n n2 n3 e => e3.extBut _ _ n3 (x2 n n2 e)
    refine wpAny_bind (draw_end hh (dj.at fun o e => x3 ap.i2z ap.i12.symm ap.TOi2.symm e) (sm.at fun o e => x3 ap.l2z ap.l2i1 ap.l2TO e) gy fun g4 e e4 he => ?_)
    obtain ⟨oe, h1, h2⟩ := he
    have z4 : IsZip g4 z U V .ellipsis := e4 _ _ ap.i2z.symm (e3.extBut _ _ ap.TOz.symm (e2.extBut _ _ ap.i1z.symm z1'))
    have ne : e ≠ z := fun y => by subst y; rw [z4] at h1; cases h1; simp at h2
    exact wpAny_setField_rec z4 (by simp) fun g5 _ e5 => out g5 e (fun k o n1 n2 n3 n4 y => e5.extBut _ _ n1 (e4 _ _ n4 (x3 n1 n3 n2 y))) ⟨oe, e5.extBut _ _ ne h1, h2⟩
theorem zipk_next {p q : Bool} {z U V i j l m : Addr} {c d : Nat} {xs ys : Array Value} {x y a b : Value} {Q : Option Value → Shared → Prop} (ap : ZipApart z U V i j l m) (zz : IsZip s.heap z U V .none) (tu : IsPair s.heap U (.ref i) (.ref j))
    (tv : IsPair s.heap V a b) (di : Ik p s.heap i l c) (dj : Ik q s.heap j m d) (sl : Sk p s.heap l xs) (sm : Sk q s.heap m ys) (gx : xs[c]? = some x) (gy : ys[d]? = some y)
    (fin : ∀ h', IsZip h' z U V (rawInt s.heap.objs.size) → IsPair h' V x y → Ik p h' i l (c + 1) → Ik q h' j m (d + 1) → IsPair h' s.heap.objs.size x y → h'.objs.size = s.heap.objs.size + 1 →
      (∀ k o, k ≠ z → k ≠ V → k ≠ i → k ≠ j → s.heap.get? k = some o → h'.get? k = some o) → Q (some (.ref s.heap.objs.size)) { s with heap := h' }) : wpAny (model prog w) A (pyNext (.ref z)) Q E s := by
  have ty : s.TypeIs (.ref z) "zip" := ⟨_, zz, rfl⟩
  unfold pyNext
  refine wpAny_bind (wpAny_attempt (wpAny_callSpecial?_slot (name := Str.ofString "__next__") ty F.slot_zip_next (wpAny_call_entry F.slot_zip_next ty F.entry_zip_next ?_ (F.args_zip_next_1 _))))
  exact zipk_item ap zz tu tv di dj sl sm gx gy fun h' b1 b2 b3 b4 b5 b6 b7 => wpAny_pure (fin h' b1 b2 b3 b4 b5 b6 b7)
theorem zipk_stop {p q : Bool} {z U V i j l m : Addr} {c d : Nat} {xs ys : Array Value} {a b : Value} {Q : Option Value → Shared → Prop} (hh : A.handled = none) (ap : ZipApart z U V i j l m) (zz : IsZip s.heap z U V .none) (tu : IsPair s.heap U (.ref i) (.ref j))
    (tv : IsPair s.heap V a b) (di : Ik p s.heap i l c) (dj : Ik q s.heap j m d) (sl : Sk p s.heap l xs) (sm : Sk q s.heap m ys) (stop : xs[c]? = none ∨ ys[d]? = none)
    (fin : ∀ h', (∀ k o, k ≠ z → k ≠ V → k ≠ i → k ≠ j → s.heap.get? k = some o → h'.get? k = some o) → Q none { s with heap := h' }) : wpAny (model prog w) A (pyNext (.ref z)) Q E s := by
  have ty : s.TypeIs (.ref z) "zip" := ⟨_, zz, rfl⟩
  unfold pyNext
  refine wpAny_bind (wpAny_attempt (wpAny_callSpecial?_slot (name := Str.ofString "__next__") ty F.slot_zip_next (wpAny_call_entry F.slot_zip_next ty F.entry_zip_next ?_ (F.args_zip_next_1 _))))
  refine zipk_end hh ap zz tu tv di dj sl sm stop fun h' e k he => ?_
  rcases he with ⟨o, e1, e2⟩
  exact wpAny_bind (wpAny_isInstance (T := "StopIteration") (b := true) ⟨o, e1, e2⟩ isSubtype_stop (wpAny_pure (fin _ k)))
/-! zip(a, b) made -/
def itO (p : Bool) (l : Addr) : Obj := { cls := .type (if p then "tuple_iterator" else "list_iterator"), data := .fields #[.ref l, .int 0 0] }
def zN1 (p : Bool) (h : Heap) (l : Addr) : Heap := h.push (itO p l)
def zN2 (p q : Bool) (h : Heap) (l m : Addr) : Heap := (zN1 p h l).push (itO q m)
def zN3 (p q : Bool) (h : Heap) (l m : Addr) : Heap := (zN2 p q h l m).push { cls := .type "tuple", data := .seq #[.ref h.objs.size, .ref (zN1 p h l).objs.size] }
def zN4 (p q : Bool) (h : Heap) (l m : Addr) : Heap := (zN3 p q h l m).push { cls := .type "tuple", data := .seq #[.none, .none] }
def zN5 (p q : Bool) (h : Heap) (l m : Addr) : Heap := (zN4 p q h l m).push { cls := .type "zip", data := .fields #[.none, .bool false, .bool false, .ref (zN2 p q h l m).objs.size, .ref (zN3 p q h l m).objs.size] }
theorem it_of {p : Bool} {h : Heap} {l : Addr} {xs : Array Value} {Q : Value → Shared → Prop} {g : Array GenState} {d : Drawn} {t : Nat} {os : OsState} (sl : Sk p h l xs) (k : Q (.ref h.objs.size) ⟨h.push (itO p l), g, d, t, os⟩) :
    wpAny (model prog w) A (pyIter (.ref l)) Q E ⟨h, g, d, t, os⟩ := by
  cases p with
  | true => exact wpAny_pyIter_tuple (s := ⟨h, g, d, t, os⟩) sl k
  | false => exact wpAny_pyIter_list (s := ⟨h, g, d, t, os⟩) sl k
theorem sk_push {p : Bool} {h : Heap} {l : Addr} {xs : Array Value} {o : Obj} (sl : Sk p h l xs) : Sk p (h.push o) l xs := sl.at fun _ e => Heap.get?_push_of_some _ e
end
theorem meets_zipk (p q : Bool) (l m : Addr) (xs ys : Array Value) :
    Meets (Builtin.«zip.__new__» ⟨[.type "zip", .ref l, .ref m], []⟩) (fun _ R s => Sk p s.heap l xs ∧ Sk q s.heap m ys ∧ R (.ok (.ret (.ref (zN4 p q s.heap l m).objs.size))) { s with heap := zN5 p q s.heap l m }) :=
  .of_wp fun prog w A R s hyp => by
    obtain ⟨hp, g, d, tk, os⟩ := s
    obtain ⟨h1, h2, hr⟩ := hyp
    have sub := sub_zip
    have h1' : Sk p hp l xs := h1
    have h2' : Sk q (hp.push (itO p l)) m ys := sk_push h2
    wp_walk using it_of h1', it_of h2'
    exact ⟨_, rfl, hr⟩
section
variable {prog : Program} {w : World} {A : Around} {E : Value → Shared → Prop} {s : Shared}
theorem itO_ik {p : Bool} {h : Heap} {a l : Addr} (e : h.get? a = some (itO p l)) : Ik p h a l 0 := by
  cases p <;> exact ⟨_, e, rfl, rfl⟩
theorem call_zipk {p q : Bool} {l m : Addr} {xs ys : Array Value} {Q : Value → Shared → Prop} (sl : Sk p s.heap l xs) (sm : Sk q s.heap m ys)
    (fin : ∀ h', IsZip h' (s.heap.objs.size + 4) (s.heap.objs.size + 2) (s.heap.objs.size + 3) .none → IsPair h' (s.heap.objs.size + 2) (.ref s.heap.objs.size) (.ref (s.heap.objs.size + 1)) → IsPair h' (s.heap.objs.size + 3) .none .none →
      Ik p h' s.heap.objs.size l 0 → Ik q h' (s.heap.objs.size + 1) m 0 → h'.objs.size = s.heap.objs.size + 5 → (∀ c o, s.heap.get? c = some o → h'.get? c = some o) → Q (.ref (s.heap.objs.size + 4)) { s with heap := h' }) :
    wpAny (model prog w) A (call (.type "zip") [.ref l, .ref m]) Q E s := by
  refine callType_new F.called_zip (by decide) (F.typeCall_zip_2 _ _) (F.newCall_zip_2 _ _) (fun obj => F.args_object_init_3 obj _ _) F.entry_zip_new (meets_zipk p q l m xs ys) ⟨sl, sm, ?_⟩
  have n1 : (zN1 p s.heap l).objs.size = s.heap.objs.size + 1 := Heap.size_push ..
  have n2 : (zN2 p q s.heap l m).objs.size = s.heap.objs.size + 2 := (Heap.size_push ..).trans (by rw [n1])
  have n3 : (zN3 p q s.heap l m).objs.size = s.heap.objs.size + 3 := (Heap.size_push ..).trans (by rw [n2])
  have n4 : (zN4 p q s.heap l m).objs.size = s.heap.objs.size + 4 := (Heap.size_push ..).trans (by rw [n3])
  have n5 : (zN5 p q s.heap l m).objs.size = s.heap.objs.size + 5 := (Heap.size_push ..).trans (by rw [n4])
  have up4 : ∀ {c : Addr} {o : Obj}, (zN4 p q s.heap l m).get? c = some o → (zN5 p q s.heap l m).get? c = some o := fun e => Heap.get?_push_of_some _ e
  have up3 : ∀ {c : Addr} {o : Obj}, (zN3 p q s.heap l m).get? c = some o → (zN5 p q s.heap l m).get? c = some o := fun e => up4 (Heap.get?_push_of_some _ e)
  have up2 : ∀ {c : Addr} {o : Obj}, (zN2 p q s.heap l m).get? c = some o → (zN5 p q s.heap l m).get? c = some o := fun e => up3 (Heap.get?_push_of_some _ e)
  have up1 : ∀ {c : Addr} {o : Obj}, (zN1 p s.heap l).get? c = some o → (zN5 p q s.heap l m).get? c = some o := fun e => up2 (Heap.get?_push_of_some _ e)
  have o5 : (zN5 p q s.heap l m).get? (zN4 p q s.heap l m).objs.size = some { cls := .type "zip", data := .fields #[.none, .bool false, .bool false, .ref (zN2 p q s.heap l m).objs.size, .ref (zN3 p q s.heap l m).objs.size] } := Heap.get?_push_size _ rfl
  have o4 : (zN5 p q s.heap l m).get? (zN3 p q s.heap l m).objs.size = some { cls := .type "tuple", data := .seq #[.none, .none] } := up4 (Heap.get?_push_size _ rfl)
  have o3 : (zN5 p q s.heap l m).get? (zN2 p q s.heap l m).objs.size = some { cls := .type "tuple", data := .seq #[.ref s.heap.objs.size, .ref (zN1 p s.heap l).objs.size] } := up3 (Heap.get?_push_size _ rfl)
  have o2 : (zN5 p q s.heap l m).get? (zN1 p s.heap l).objs.size = some (itO q m) := up2 (Heap.get?_push_size _ (by cases q <;> rfl))
  have o1 : (zN5 p q s.heap l m).get? s.heap.objs.size = some (itO p l) := up1 (Heap.get?_push_size _ (by cases p <;> rfl))
  show _ ∧ _
  rw [n2, n3, n4] at o5
  rw [n1, n2] at o3
  rw [n3] at o4
  rw [n1] at o2
  rw [n4]
  exact ⟨⟨_, o5, rfl⟩, fin _ o5 o3 o4 (itO_ik o1) (itO_ik o2) n5 fun c o e => up1 (Heap.get?_push_of_some _ e)⟩
end
/-! over the layer -/
def Qk (p : Bool) (K : PySem.W.Frag) (H : Hp) (a : Addr) (xs : List V) : Prop := if p then SqT K H a xs else SqL K H a xs
section
variable {X : Cx} {pins : List (Addr × Obj)} {σ : St} {H : Hp} {s : Shared} {a b : Addr} {xs ys : List V} {p q : Bool}
theorem kq_at (I : Inv X pins σ H s) (h : Qk p X.K H a xs) : ∃ its : List Value, Vals xs its ∧ Sk p s.heap a its.toArray := by
  cases p with
  | true =>
    rcases I.tuple h with ⟨its, r, t, _⟩
    exact ⟨its, r, t⟩
  | false =>
    rcases I.list h with ⟨its, r, t, _⟩
    exact ⟨its, r, t.isList⟩
theorem kq_inj (I : Inv X pins σ H s) (h : Qk p X.K H a xs) (h' : Qk p X.K H a ys) : xs = ys := by
  cases p with
  | true => exact I.tuple_inj h h'
  | false => exact I.list_inj h h'
/-- zip's iterator -/
def Izk (p q : Bool) (K : PySem.W.Frag) (a b : Addr) : It where
  go := fun i H => ∃ (xs ys : List V) (x y : V), Qk p K H a xs ∧ Qk q K H b ys ∧ xs[i]? = some x ∧ ys[i]? = some y
  yld := fun i H v H' => ∃ T x y, v = .ref T ∧ H T = none ∧ H' = upd H T (.tup [x, y]) ∧ (∀ xs, Qk p K H a xs → xs[i]? = some x) ∧ ∀ ys, Qk q K H b ys → ys[i]? = some y
  stop := fun i H => ∃ xs ys : List V, Qk p K H a xs ∧ Qk q K H b ys ∧ (xs.length ≤ i ∨ ys.length ≤ i)
theorem turn_zipk {P : Program} {w : World} {K : PySem.W.Frag} {elts : List Expr} {kk : Nat} {tpos : Pos} {z U V1 i1 i2 : Addr} (ap : ZipApart z U V1 i1 i2 a b) :
    Turn P w K (.Tuple elts kk tpos) (Izk p q K a b) [z, U, V1, i1, i2] z (fun i h => IsZip h z U V1 .none ∧ IsPair h U (.ref i1) (.ref i2) ∧ (∃ x y, IsPair h V1 x y) ∧ Ik p h i1 a i ∧ Ik q h i2 b i) where
  mem := by simp
  obj := fun i h st c hc => by
    rcases st with ⟨e1, e2, ⟨x, y, e3⟩, e4, e5⟩
    rcases e4.obj with ⟨o4, v4, f4, d4⟩
    rcases e5.obj with ⟨o5, v5, f5, d5⟩
    have cs : c = z ∨ c = U ∨ c = V1 ∨ c = i1 ∨ c = i2 := by simpa using hc
    rcases cs with rfl | rfl | rfl | rfl | rfl
    · exact ⟨_, e1, fun v q => nomatch q⟩
    · exact ⟨_, e2, fun v q => nomatch q⟩
    · exact ⟨_, e3, fun v q => nomatch q⟩
    · exact ⟨o4, f4, fun v q => by rw [d4] at q; cases q⟩
    · exact ⟨o5, f5, fun v q => by rw [d5] at q; cases q⟩
  keep := fun i h h' st k => by
    rcases st with ⟨e1, e2, ⟨x, y, e3⟩, e4, e5⟩
    exact ⟨k z (by simp) _ e1, k U (by simp) _ e2, ⟨x, y, k V1 (by simp) _ e3⟩, e4.at fun o e => k i1 (by simp) o e, e5.at fun o e => k i2 (by simp) o e⟩
  item := by
    intro X hP hw hK hc i pins s σ H E I hf st hg
    subst hP hw hK
    rcases st with ⟨e1, e2, ⟨x0, y0, e3⟩, e4, e5⟩
    rcases hg with ⟨xs, ys, x, y, hqx, hqy, hx, hy⟩
    rcases kq_at I hqx with ⟨its, rv, sl⟩
    rcases kq_at I hqy with ⟨its2, rv2, sm⟩
    obtain ⟨u, hu, ru⟩ := rv.get hx
    obtain ⟨u2, hu2, ru2⟩ := rv2.get hy
    have zl : z < s.heap.objs.size := Heap.lt_size e1
    refine zipk_next ap e1 e2 e3 e4 e5 sl sm (x := u) (y := u2) (by simpa using hu) (by simpa using hu2) fun h' z' t' d1 d2 tT hsz hk => ?_
    refine ⟨_, rfl, wpAny_letOwnedTupleGo_zip (s := { s with heap := h' }) z' fun h'' z'' sb => ?_⟩
    have tT2 : h''.get? s.heap.objs.size = some { cls := .type "tuple", data := .seq #[u, u2] } := (sb.2 _ (Nat.ne_of_gt zl)).trans tT
    have new : ObjOk X.prog X.w (upd H s.heap.objs.size (.tup [x, y])) h'' s.heap.objs.size (.tup [x, y]) :=
      ⟨by show 2 ≤ sizeLine; decide, [u, u2], .cons ru (.cons ru2 .nil), ⟨_, tT2, rfl, _, rfl⟩⟩
    have J := I.turnedNew (t' := s.toks) (ch := [z, U, V1, i1, i2]) (fun c o hb e => (sb.2 c (fun y => hb (by simp [y]))).trans (hk c o (fun y => hb (by simp [y])) (fun y => hb (by simp [y])) (fun y => hb (by simp [y])) (fun y => hb (by simp [y])) e)) hf (Nat.le_refl _) new
    refine ⟨.ref s.heap.objs.size, _, J, rfl, ⟨_, x, y, rfl, I.hok.fresh (Nat.le_refl _), rfl, fun l hl => by rw [kq_inj I hl hqx]; exact hx, fun l hl => by rw [kq_inj I hl hqy]; exact hy⟩, ⟨z'', ?_, ⟨u, u2, ?_⟩, ?_, ?_⟩, fun c hcm => ?_⟩
    · exact (sb.2 _ ap.TIz).trans (hk _ _ ap.TIz ap.TITO ap.TIi1 ap.TIi2 e2)
    · exact (sb.2 _ ap.TOz).trans t'
    · exact d1.at fun o e => (sb.2 _ ap.i1z).trans e
    · exact d2.at fun o e => (sb.2 _ ap.i2z).trans e
    · have lt : c < s.heap.objs.size := by
        rcases e4.obj with ⟨o4, v4, f4, _⟩
        rcases e5.obj with ⟨o5, v5, f5, _⟩
        have cs : c = z ∨ c = U ∨ c = V1 ∨ c = i1 ∨ c = i2 := by simpa using hcm
        rcases cs with rfl | rfl | rfl | rfl | rfl
        · exact zl
        · exact Heap.lt_size e2
        · exact Heap.lt_size e3
        · exact Heap.lt_size f4
        · exact Heap.lt_size f5
      rw [upd_ne (Nat.ne_of_lt lt)]
      exact (hf c hcm).1
  done := by
    intro X hP hw hK hc i pins s σ H E I hf st hg
    subst hP hw hK
    rcases st with ⟨e1, e2, ⟨x0, y0, e3⟩, e4, e5⟩
    rcases hg with ⟨xs, ys, hqx, hqy, fin⟩
    rcases kq_at I hqx with ⟨its, rv, sl⟩
    rcases kq_at I hqy with ⟨its2, rv2, sm⟩
    have l1 := rv.length
    have l2 := rv2.length
    have he : its.toArray[i]? = none ∨ its2.toArray[i]? = none := fin.imp (fun y => by simp; omega) fun y => by simp; omega
    exact zipk_stop (I.ok.hd hc) ap e1 e2 e3 e4 e5 sl sm he fun h' hk => ⟨rfl, I.turnedL (t' := s.toks) (ch := [z, U, V1, i1, i2]) (fun c o hb e =>
      hk c o (fun y => hb (by simp [y])) (fun y => hb (by simp [y])) (fun y => hb (by simp [y])) (fun y => hb (by simp [y])) e) hf⟩
  self := fun A i s Q E st h => wpAny_pyIter_zip st.1 h
def tiZk (p q : Bool) (K : PySem.W.Frag) (ta : TA) : TI := fun σ H R => ta σ H fun vs H1 => ∃ a b xs ys, vs = [.ref a, .ref b] ∧ Qk p K H1 a xs ∧ Qk q K H1 b ys ∧ R (Izk p q K a b) H1
theorem pi_zipk (p q : Bool) {e e2 : Expr} {ta : TA} {pz pos tpos : Pos} {elts : List Expr} {kk : Nat} (hg : Gl X "zip") (hm : X.mg "zip" = none) (ha : PA X [e, e2] ta)
    (hs : starEach [e, e2] X.env = (false, eval e X.env) :: starEach [e2] X.env) (hpl : (backTo pos (starEach [e2] X.env)).any (·.1) = false) :
    PI X (.Tuple elts kk tpos) (.Call (.Name "zip" pz) [e, e2] [] pos) (tiZk p q X.K ta) := by
  refine ⟨fun pins s σ H R I h => PyProof.Rows.Call_ (ld_blt I hg hm PyProof.Rows.boot_zip (PyProof.Rows.callWith_type1 (thn (ha.run pos pins s σ H _ I h) fun us s1 h1 => ?_) hs hpl))⟩
  rcases h1 with ⟨vs, H1, I1, r1, a, b, xs, ys, rfl, hqx, hqy, hR⟩
  cases r1 with
  | cons r rr =>
    cases rr with
    | cons r' rr =>
      cases rr
      cases r
      cases r'
      rcases kq_at I1 hqx with ⟨its, rv, sl⟩
      rcases kq_at I1 hqy with ⟨its2, rv2, sm⟩
      refine call_zipk sl sm fun h' b1 b2 b3 b4 b5 hsz hk => wpAny_pyIter_zip b1 ?_
      refine ⟨s1.heap.objs.size + 4, [s1.heap.objs.size + 4, s1.heap.objs.size + 2, s1.heap.objs.size + 3, s1.heap.objs.size, s1.heap.objs.size + 1], _, _, H1, rfl, I1.kept (t' := s1.toks) hk, turn_zipk (PySem.W.ktu_apart s1.heap.objs.size a b sl.lt sm.lt), ⟨b1, b2, ⟨_, _, b3⟩, b4, b5⟩, fun c hcm => ?_, hR⟩
      have cs : c = s1.heap.objs.size + 4 ∨ c = s1.heap.objs.size + 2 ∨ c = s1.heap.objs.size + 3 ∨ c = s1.heap.objs.size ∨ c = s1.heap.objs.size + 1 := by simpa using hcm
      have le : s1.heap.objs.size ≤ c := by
        rcases cs with z | z | z | z | z
        · rw [z]; exact Nat.le_add_right _ _
        · rw [z]; exact Nat.le_add_right _ _
        · rw [z]; exact Nat.le_add_right _ _
        · rw [z]; exact Nat.le_refl _
        · rw [z]; exact Nat.le_add_right _ _
      exact I1.fpOk le (I1.hok.fresh le)
end
section
variable {X : Cx} {W : WX} {ρ : List Slot} {T U A B : Type} [Rp T] [Rp U] [Rp A] [Rp B] {a c tg : Expr} {pos : Pos}
theorem sqlSame {K : PySem.W.Frag} {H H' : Hp} {a : Addr} {xs : List V} (e : Same H H') (h : SqL K H a xs) : SqL K H' a xs := by
  rcases h with (h | ⟨o, h⟩) | h
  · exact .inl (.inl (e _ _ h))
  · exact .inl (.inr ⟨o, e _ _ h⟩)
  · exact .inr h
theorem Qk.same {k : Bool} {K : PySem.W.Frag} {H H' : Hp} {a : Addr} {xs : List V} (s : Same H H') (h : Qk k K H a xs) : Qk k K H' a xs := by
  cases k with
  | true => exact SqT.same s h
  | false => exact sqlSame s h
/-- the picture of x is a list or a tuple of f x -/
def Pic (k : Bool) (f : A → List T) : Prop := ∀ (K : PySem.W.Frag) (H : Hp) (v : V) (x : A), rp K H v x → ∃ a vs, v = .ref a ∧ Qk k K H a vs ∧ RpAll K H vs (f x)
theorem i_zipk (k1 k2 : Bool) {f : A → List T} {f2 : B → List U} (pf : Pic k1 f) (pf2 : Pic k2 f2) {m : Res A} {mc : Res B} {p : Pos} {elts : List Expr} {kk : Nat} {tpos : Pos} (h : EG X W true ρ a m) (h2 : EG X W true ρ c mc) (hm : X.mg "zip" = none) (hg : Gl X "zip")
    (he : starEach (a :: [c]) X.env = (false, eval a X.env) :: starEach [c] X.env) (he2 : starEach (c :: []) X.env = (false, eval c X.env) :: starEach [] X.env) (hpl : (backTo pos (starEach [c] X.env)).any (·.1) = false) :
    IJ X W ρ (.Tuple elts kk tpos) (.Call (.Name "zip" p) [a, c] [] pos) (m.bind fun xs => mc.bind fun ys => .ok ((f xs).zip (f2 ys))) := by
  obtain ⟨t, p, q⟩ := h.ex
  obtain ⟨tc, pc, qc⟩ := h2.ex
  refine ⟨_, pi_zipk k1 k2 hg hm (pa_cons p (pa_cons pc pa_nil he2) he) he hpl, fun S own σ H R rs hp => q S own σ H _ rs (hp.bind.imp (fun xs hx H1 v s1 r => qc S own σ H1 _ (rs.mono s1) (hx.bind.imp (fun ys hy H' u s2 r2 => ?_) fun _ z => z.mono s1)) fun _ z => z)⟩
  obtain ⟨a, vs, rfl, e1, e2⟩ := pf _ _ _ _ r
  obtain ⟨b, us, rfl, e3, e4⟩ := pf2 _ _ _ _ r2
  have e1 := Qk.same (hide_same s2) e1
  have e2 := RpAll.mono (hide_same s2) e2
  have s := s1.trans s2
  have hlen : ((f xs).zip (f2 ys)).length = min vs.length us.length := by rw [List.length_zip, e2.length, e4.length]
  refine ⟨a, b, vs, us, rfl, Qk.same hide_sub e1, Qk.same hide_sub e3, hy _ H' s ⟨fun i H2 hi s2 => ?_, fun H2 s2 => ?_, fun i H2 v H3 x B2 ei s2 hd hyy => ?_⟩⟩
  · have h1 : i < vs.length := by rw [hlen] at hi; omega
    have h2 : i < us.length := by rw [hlen] at hi; omega
    exact ⟨vs, us, vs[i], us[i], Qk.same s2 e1, Qk.same s2 e3, List.getElem?_eq_getElem h1, List.getElem?_eq_getElem h2⟩
  · exact ⟨vs, us, Qk.same s2 e1, Qk.same s2 e3, by rw [hlen]; omega⟩
  · obtain ⟨Tt, x1, y1, rfl, hT, rfl, f1, f2⟩ := hyy
    rw [List.getElem?_zip_eq_some] at ei
    obtain ⟨v', e5, r5⟩ := e2.get ei.1
    obtain ⟨u', e6, r6⟩ := e4.get ei.2
    have f1 := f1 vs (Qk.same (s2.trans hide_sub) e1)
    have f2 := f2 us (Qk.same (s2.trans hide_sub) e3)
    rw [e5] at f1
    rw [e6] at f2
    cases f1
    cases f2
    exact pair_new hT hd (Rp.mono s2 r5) (Rp.mono s2 r6)
theorem pic_l : Pic (T := T) false (fun x : List T => x) := fun K H v x ⟨a, vs, e, h1, h2⟩ => ⟨a, vs, e, .inl (.inl h1), h2⟩
theorem pic_t : Pic (T := T) true (fun x : Tup T => x.l) := fun K H v x ⟨a, vs, e, h1, h2⟩ => ⟨a, vs, e, h1, h2⟩
/-- a type whose values are lists or tuples, by the value -/
class Seqn (A : Type) (T : outParam Type) [Rp A] [Rp T] where
  k : A → Bool
  f : A → List T
  pic : ∀ (K : PySem.W.Frag) (H : Hp) (v : V) (x : A), rp K H v x → ∃ a vs, v = .ref a ∧ Qk (k x) K H a vs ∧ RpAll K H vs (f x)
instance : Seqn (List T) T := ⟨fun _ => false, fun x => x, fun K H v x h => pic_l K H v x h⟩
instance : Seqn (Tup T) T := ⟨fun _ => true, fun x => x.l, fun K H v x h => pic_t K H v x h⟩
instance : Seqn (Sq T) T := ⟨fun x => x.t, fun x => x.l, fun K H v x h => by
  obtain ⟨t, l⟩ := x
  cases t with
  | true => exact pic_t K H v (Tup.mk l) h
  | false => exact pic_l K H v l h⟩
/-- a list or a tuple, the kind k known -/
structure KL (k : Bool) (T : Type) where
  l : List T
instance {k : Bool} : Rp (KL k T) where
  rp K H v x := ∃ a vs, v = .ref a ∧ Qk k K H a vs ∧ RpAll K H vs x.l
  mono {K H H' v x} s h := by
    obtain ⟨a, vs, e, h1, h2⟩ := h
    exact ⟨a, vs, e, Qk.same s h1, RpAll.mono s h2⟩
theorem pic_k {k : Bool} : Pic k (fun x : KL k T => x.l) := fun K H v x h => h
theorem eg_kl [Seqn A T] {m : Res A} (h : EG X W true ρ a m) : ∃ (k : Bool) (m' : Res (KL k T)), EG X W true ρ a m' ∧ (m.bind fun x => .ok (Seqn.f x)) = m'.bind fun x => .ok x.l := by
  cases m with
  | ok x => exact ⟨Seqn.k x, .ok ⟨Seqn.f x⟩, h.as fun K H v r => Seqn.pic K H v x r, rfl⟩
  | err z => exact ⟨true, .err z, h.asE, rfl⟩
  | bad => exact ⟨true, .bad, h.asB, rfl⟩
theorem i_zips [Seqn A T] [Seqn B U] {m : Res A} {mc : Res B} {p : Pos} {elts : List Expr} {kk : Nat} {tpos : Pos} (h : EG X W true ρ a m) (h2 : EG X W true ρ c mc) (hm : X.mg "zip" = none) (hg : Gl X "zip" := by rfl)
    (he : starEach (a :: [c]) X.env = (false, eval a X.env) :: starEach [c] X.env := by rfl) (he2 : starEach (c :: []) X.env = (false, eval c X.env) :: starEach [] X.env := by rfl) (hpl : (backTo pos (starEach [c] X.env)).any (·.1) = false := by rfl) :
    IJ X W ρ (.Tuple elts kk tpos) (.Call (.Name "zip" p) [a, c] [] pos) (m.bind fun xs => mc.bind fun ys => .ok ((Seqn.f xs : List T).zip (Seqn.f ys : List U))) := by
  obtain ⟨k1, n1, g1, q1⟩ := eg_kl (T := T) h
  obtain ⟨k2, n2, g2, q2⟩ := eg_kl (T := U) h2
  have r := i_zipk k1 k2 pic_k pic_k g1 g2 hm hg he he2 hpl (p := p) (elts := elts) (kk := kk) (tpos := tpos)
  have e : (m.bind fun xs => mc.bind fun ys => .ok ((Seqn.f xs : List T).zip (Seqn.f ys : List U))) = n1.bind fun xs => n2.bind fun ys => .ok (xs.l.zip ys.l) := by
    have e1 : (m.bind fun xs => mc.bind fun ys => .ok ((Seqn.f xs : List T).zip (Seqn.f ys : List U))) = (m.bind fun x => .ok (Seqn.f x : List T)).bind fun xs => (mc.bind fun y => .ok (Seqn.f y : List U)).bind fun ys => .ok (xs.zip ys) := by
      cases m <;> cases mc <;> rfl
    rw [e1, q1, q2]
    cases n1 <;> cases n2 <;> rfl
  rw [e]
  exact r
theorem e_tupoft {p : Pos} {ma : Res (Tup T)} (ha : EG X W true ρ a ma) (hm : X.mg "tuple" = none) (hg : Gl X "tuple" := by rfl)
    (he : starEach [a] X.env = (false, eval a X.env) :: starEach [] X.env := by rfl) (hpl : (backTo pos (starEach [] X.env)).any (·.1) = false := by rfl) : EG X W true ρ (.Call (.Name "tuple" p) [a] [] pos) (ma.bind fun xs => .ok xs) := by
  obtain ⟨ta, pa, qa⟩ := ha.ex
  refine ⟨_, pe_callTy call_tuple_of hg hm (by decide +kernel) (pa_cons pa pa_nil he) (by decide) (by decide) he hpl, fun S own σ H Q rs h => one_run (R' := fun v H2 => ∃ p ys, [v] = [V.ref p] ∧ ((SqL X.K H2 p ys ∧ ∀ l, H2 l = none → Q (.ref l) (upd H2 l (.tup ys))) ∨ (SqT X.K H2 p ys ∧ Q (.ref p) H2))) qa rs h fun xs v H2 s r1 hp => ?_⟩
  obtain ⟨a, vs, rfl, h1, r2⟩ := r1
  exact ⟨a, vs, rfl, .inr ⟨SqT.same hide_sub h1, hp _ _ s ⟨a, vs, rfl, h1, r2⟩⟩⟩
theorem e_tupofsq {p : Pos} {m : Res (Sq T)} (h : EG X W true ρ a m) (hm : X.mg "tuple" = none) (hg : Gl X "tuple" := by rfl)
    (he : starEach [a] X.env = (false, eval a X.env) :: starEach [] X.env := by rfl) (hpl : (backTo pos (starEach [] X.env)).any (·.1) = false := by rfl) : EG X W true ρ (.Call (.Name "tuple" p) [a] [] pos) (m.bind fun x => .ok (Tup.mk x.l)) := by
  cases m with
  | ok x =>
    obtain ⟨t, l⟩ := x
    cases t with
    | true => exact e_tupoft (ma := .ok (Tup.mk l)) (h.as fun _ _ _ r => r) hm hg he hpl
    | false => exact e_tupof (ma := .ok l) (EG.lg (h.as fun _ _ _ r => r)) hm hg he hpl
  | err z => exact e_tupoft (ma := (.err z : Res (Tup T))) h.asE hm hg he hpl
  | bad => exact e_tupoft (ma := (.bad : Res (Tup T))) h.asB hm hg he hpl
theorem e_sqTp {g : Bool} {x : Tup T} (h : EG X W g ρ a (.ok x)) : EG X W g ρ a (.ok (Sq.mk true x.l)) := e_sqT h
theorem e_sqLp {g : Bool} {x : List T} (h : EG X W g ρ a (.ok x)) : EG X W g ρ a (.ok (Sq.mk false x)) := e_sqL h
theorem i_sqp {x : Sq T} (h : EG X W true ρ a (.ok x)) : IJ X W ρ tg a (.ok x.l) := i_sq h
theorem e_ixsqp {x : Sq T} {i : Int} (h : EG X W true ρ a (.ok x)) (hi : EG X W true ρ c (.ok i)) (hs : PlainIx c := by exact fun _ _ => rfl) : EG X W true ρ (.Subscript a c pos) (idxM x.l i) := e_ixsq h hi hs
theorem f_listofsqp {p : Pos} {x : Sq T} (h : EG X W true ρ a (.ok x)) (hm : X.mg "list" = none) (hg : Gl X "list" := by rfl)
    (he : starEach [a] X.env = (false, eval a X.env) :: starEach [] X.env := by rfl) (hpl : (backTo pos (starEach [] X.env)).any (·.1) = false := by rfl) : FG X W ρ (.Call (.Name "list" p) [a] [] pos) (.ok x.l) := f_listofsq h hm hg he hpl
theorem e_tupofsqp {p : Pos} {x : Sq T} (h : EG X W true ρ a (.ok x)) (hm : X.mg "tuple" = none) (hg : Gl X "tuple" := by rfl)
    (he : starEach [a] X.env = (false, eval a X.env) :: starEach [] X.env := by rfl) (hpl : (backTo pos (starEach [] X.env)).any (·.1) = false := by rfl) : EG X W true ρ (.Call (.Name "tuple" p) [a] [] pos) (.ok (Tup.mk x.l)) := e_tupofsq h hm hg he hpl
theorem e_tupoftp {p : Pos} {x : Tup T} (h : EG X W true ρ a (.ok x)) (hm : X.mg "tuple" = none) (hg : Gl X "tuple" := by rfl)
    (he : starEach [a] X.env = (false, eval a X.env) :: starEach [] X.env := by rfl) (hpl : (backTo pos (starEach [] X.env)).any (·.1) = false := by rfl) : EG X W true ρ (.Call (.Name "tuple" p) [a] [] pos) (.ok x) := e_tupoft h hm hg he hpl
instance [Dat T] : Dat (Sq T) where
  toD x := match x with
    | ⟨true, l⟩ => Dat.toD (Tup.mk l)
    | ⟨false, l⟩ => Dat.toD l
  ok x := x.l.all Dat.ok
  dp {K H v x} h := by
    obtain ⟨t, l⟩ := x
    cases t with
    | true => exact Dat.dp (T := Tup T) h
    | false => exact Dat.dp (T := List T) h
  lay x h := by
    obtain ⟨t, l⟩ := x
    cases t with
    | true => exact Dat.lay (Tup.mk l) h
    | false => exact Dat.lay l h
  dep := Dat.dep T + 1
  depth x := by
    obtain ⟨t, l⟩ := x
    cases t with
    | true => exact Dat.depth (Tup.mk l)
    | false => exact Dat.depth l
  dec x y := (x.t == y.t) && decAll x.l y.l
  eqv x y := by
    obtain ⟨t, l⟩ := x
    obtain ⟨t2, l2⟩ := y
    cases t <;> cases t2
    · exact (Dat.eqv l l2).trans (by simp; rfl)
    · simp [Dat.toD, PyData.eqv]
    · simp [Dat.toD, PyData.eqv]
    · exact (Dat.eqv (Tup.mk l) (Tup.mk l2)).trans (by simp; rfl)
  iff x y := by
    obtain ⟨t, l⟩ := x
    obtain ⟨t2, l2⟩ := y
    simp [decAll_iff]
instance [Dat T] [DatT T] : DatT (Sq T) := ⟨fun xs => List.all_eq_true.mpr fun x _ => DatT.ok x⟩
instance : Ty (Sq T) := ⟨fun x => if x.t then "tuple" else "list", fun {K B H v x} h => by
  obtain ⟨t, l⟩ := x
  cases t with
  | true => exact Ty.ok (T := Tup T) (x := Tup.mk l) h
  | false => exact Ty.ok (T := List T) (x := l) h⟩
end
end Py

set_option Elab.async false
set_option linter.all false
set_option maxRecDepth 100000
set_option maxHeartbeats 4000000
/-! Py, part V: one picture for another; tuples as sequences; index, in. -/
namespace Py
open PySem PySem.Spec L2
open Rp (rp)
/-- a value that stands for x stands for f x -/
structure Up {A B : Type} [Rp A] [Rp B] (f : A → B) : Prop where
  k : ∀ (K : PySem.W.Frag) (H : Hp) (v : V) (x : A), rp K H v x → rp K H v (f x)
class NN (T : Type) [Rp T] : Prop where
  nn : ∀ {K : PySem.W.Frag} {H : Hp} {v : V} {x : T}, rp K H v x → v ≠ .non
instance : NN Int := ⟨fun h => by rw [show _ = _ from h]; intro z; cases z⟩
instance : NN Bool := ⟨fun h => by rw [show _ = _ from h]; intro z; cases z⟩
instance : NN Str := ⟨fun h => by rw [show _ = _ from h]; intro z; cases z⟩
instance {T : Type} [Rp T] : NN (List T) := ⟨fun h => by obtain ⟨a, vs, e, _⟩ := h; rw [e]; intro z; cases z⟩
instance {T : Type} [Rp T] : NN (Tup T) := ⟨fun h => by obtain ⟨a, vs, e, _⟩ := h; rw [e]; intro z; cases z⟩
instance {T : Type} [Places T] : NN T := ⟨fun h => by obtain ⟨a, vs, e, _⟩ := h; rw [e]; intro z; cases z⟩
section
variable {A B C A' B' C' D D' T : Type} [Rp A] [Rp B] [Rp C] [Rp A'] [Rp B'] [Rp C'] [Rp D] [Rp D'] [Rp T]
theorem up_id : Up (fun x : A => x) := ⟨fun _ _ _ _ h => h⟩
theorem up_T : Up (fun x : Tup T => Sq.mk true x.l) := ⟨fun _ _ _ _ h => h⟩
theorem up_L : Up (fun x : List T => Sq.mk false x) := ⟨fun _ _ _ _ h => h⟩
theorem up_D [Dat T] : Up (fun x : T => PD.mk (Dat.toD x)) := ⟨fun _ _ _ _ h => Dat.dp h⟩
theorem up_some [NN T] : Up (fun x : T => some x) := ⟨fun _ _ _ _ h => ⟨h, NN.nn h⟩⟩
theorem up_none : Up (fun _ : Unit => (none : Option T)) := ⟨fun _ _ _ _ h => h⟩
theorem RpAll.up {K : PySem.W.Frag} {H : Hp} {f : A → B} (u : Up f) : ∀ {vs : List V} {xs : List A}, RpAll K H vs xs → RpAll K H vs (xs.map f)
  | _, _, .nil => .nil
  | _, _, .cons r t => .cons (u.k _ _ _ _ r) (RpAll.up u t)
theorem up_list {f : A → B} (u : Up f) : Up (fun x : List A => x.map f) := ⟨fun K H v x ⟨a, vs, e, h1, h2⟩ => ⟨a, vs, e, h1, RpAll.up u h2⟩⟩
theorem up_tup {f : A → B} (u : Up f) : Up (fun x : Tup A => Tup.mk (x.l.map f)) := ⟨fun K H v x ⟨a, vs, e, h1, h2⟩ => ⟨a, vs, e, h1, RpAll.up u h2⟩⟩
theorem up_opt {f : A → B} (u : Up f) : Up (fun x : Option A => x.map f) := ⟨fun K H v x h => by
  cases x with
  | none => exact h
  | some y => exact ⟨u.k _ _ _ _ h.1, h.2⟩⟩
theorem up_P {f : A → A'} {g : B → B'} (u : Up f) (u2 : Up g) : Up (fun p : A × B => (f p.1, g p.2)) := ⟨fun K H v x ⟨a, vs, e, h1, h2⟩ => ⟨a, vs, e, h1, by
  cases h2 with
  | cons r1 h2 =>
    cases h2 with
    | cons r2 h2 => exact .cons (u.k _ _ _ _ r1) (.cons (u2.k _ _ _ _ r2) h2)⟩⟩
theorem up_T3 {f : A → A'} {g : B → B'} {h : C → C'} (u : Up f) (u2 : Up g) (u3 : Up h) : Up (fun p : T3 A B C => (⟨f p.a, g p.b, h p.c⟩ : T3 A' B' C')) := ⟨fun K H v x ⟨a, vs, e, h1, h2⟩ => ⟨a, vs, e, h1, by
  cases h2 with
  | cons r1 h2 =>
    cases h2 with
    | cons r2 h2 =>
      cases h2 with
      | cons r3 h2 => exact .cons (u.k _ _ _ _ r1) (.cons (u2.k _ _ _ _ r2) (.cons (u3.k _ _ _ _ r3) h2))⟩⟩
theorem up_T4 {f : A → A'} {g : B → B'} {h : C → C'} {i : D → D'} (u : Up f) (u2 : Up g) (u3 : Up h) (u4 : Up i) : Up (fun p : T4 A B C D => (⟨f p.a, g p.b, h p.c, i p.d⟩ : T4 A' B' C' D')) := ⟨fun K H v x ⟨a, vs, e, h1, h2⟩ => ⟨a, vs, e, h1, by
  cases h2 with
  | cons r1 h2 =>
    cases h2 with
    | cons r2 h2 =>
      cases h2 with
      | cons r3 h2 =>
        cases h2 with
        | cons r4 h2 => exact .cons (u.k _ _ _ _ r1) (.cons (u2.k _ _ _ _ r2) (.cons (u3.k _ _ _ _ r3) (.cons (u4.k _ _ _ _ r4) h2)))⟩⟩
/-- a tuple of like things as a sequence -/
theorem up_PT : Up (fun p : T × T => Tup.mk [p.1, p.2]) := ⟨fun K H v x ⟨a, vs, e, h1, h2⟩ => ⟨a, vs, e, h1, by
  cases h2 with
  | cons r1 h2 =>
    cases h2 with
    | cons r2 h2 => cases h2; exact .cons r1 (.cons r2 .nil)⟩⟩
end
section
variable {A B C R T U : Type} [Rp A] [Rp B] [Rp C] [Rp R] [Rp T] [Rp U] {X : Cx} {W : WX} {g : Bool} {ρ : List Slot} {a b c e : Expr} {pos : Pos} {lv : Nat}
theorem e_up {f : A → B} {m : Res A} (u : Up f) (h : EG X W g ρ e m) : EG X W g ρ e (m.bind fun x => .ok (f x)) := by
  cases m with
  | ok x => exact h.as fun K H v r => u.k K H v x r
  | err z => exact h.asE
  | bad => exact h.asB
theorem e_upp {f : A → B} {x : A} (u : Up f) (h : EG X W g ρ e (.ok x)) : EG X W g ρ e (.ok (f x)) := e_up u h
theorem l_up {f : A → B} {m : Res (List A)} (u : Up f) (h : LG X W ρ e m) : LG X W ρ e (m.bind fun x => .ok (x.map f)) := by
  obtain ⟨t, p, q⟩ := h.ex
  exact ⟨t, p, fun S own σ H Q rs hp => q S own σ H Q rs (hp.bind.imp (fun x hx H' a vs s e1 e2 => hx H' a vs s e1 (RpAll.up u e2)) fun _ z => z)⟩
theorem f_up {f : A → B} {m : Res (List A)} (u : Up f) (h : FG X W ρ e m) : FG X W ρ e (m.bind fun x => .ok (x.map f)) := by
  obtain ⟨t, p, q⟩ := h.ex
  exact ⟨t, p, fun S own σ H Q rs hp => q S own σ H Q rs (hp.bind.imp (fun x hx H' a vs s na e1 e2 => hx H' a vs s na e1 (RpAll.up u e2)) fun _ z => z)⟩
theorem f_upp {f : A → B} {x : List A} (u : Up f) (h : FG X W ρ e (.ok x)) : FG X W ρ e (.ok (x.map f)) := f_up u h
/-- what is there and not None -/
def getO {α : Type} : Option α → Res α
  | some x => .ok x
  | none => .bad
theorem e_getO {m : Res (Option T)} (h : EG X W g ρ e m) : EG X W g ρ e (m.bind getO) := by
  cases m with
  | ok x =>
    cases x with
    | none =>
      obtain ⟨t, p, q⟩ := h.ex
      exact ⟨t, p, fun S own σ H Q rs hp => hp.elim⟩
    | some y => exact h.as fun K H v r => r.1
  | err z => exact h.asE
  | bad => exact h.asB
theorem e_getOp {x : Option T} (h : EG X W g ρ e (.ok x)) : EG X W g ρ e (getO x) := e_getO h
/-! ### tuples -/
theorem e_tupL {es : List Expr} {A T : Type} [Rp T] {as : A → List AV} {mk : A → Tup T} {m : Res (Tup T)} {x1} (h : AJ X W g ρ es as (fun x => .ok (mk x)) m) (hp : ∀ x, as x = (mk x).l.map av := by intro _; rfl)
    (hz : ∀ x, (mk x).l.length ≤ sizeLine := by intro _; exact Nat.le_of_ble_eq_true rfl) : EG X W g ρ (.Tuple es x1 pos) m := by
  obtain ⟨t, p, q⟩ := h.ex
  refine ⟨_, pe_tup p, fun S own σ H Q rs hP => q S own σ H _ _ _ rs (fun e z => z) hP fun x vs H' s r hx => ?_⟩
  rw [hp] at r
  have r2 := args_all r
  refine ⟨by rw [r2.length]; exact hz x, fun p np => ?_⟩
  have s2 : Same H' (upd H' p (.tup vs)) := same_upd np
  refine hx _ _ (s.trans s2) ⟨p, vs, rfl, .inl (.inl ?_), ?_⟩
  · rw [hide_out fun z => (rs.mono s).dom p (reg_sub p z) np, upd_same]
  · exact RpAll.mono (hide_same s2) r2
def catT {α : Type} (x y : Tup α) : Res (Tup α) := guardR (decide (x.l.length + y.l.length ≤ sizeLine)) (.ok ⟨x.l ++ y.l⟩)
theorem e_catT {ma mb : Res (Tup T)} (ha : EG X W g ρ a ma) (hb : EG X W g ρ b mb) : EG X W g ρ (.BinOp a .Add b pos) (ma.bind fun x => mb.bind fun y => catT x y) := by
  obtain ⟨ta, pa, qa⟩ := ha.ex
  obtain ⟨tb, pb, qb⟩ := hb.ex
  refine ⟨_, pe_op op_catA pa pb, fun S own σ H Q rs h => two_run (R' := fun v u H2 => rCatA X.K v u H2 Q) qa qb rs h fun x y v u H2 s r1 r2 hp => ?_⟩
  obtain ⟨p1, vs, rfl, a1, a2⟩ := r1
  obtain ⟨p2, us, rfl, b1, b2⟩ := r2
  obtain ⟨h1, hy⟩ := hp.guard
  refine ⟨p1, p2, vs, us, rfl, rfl, SqT.same hide_sub a1, SqT.same hide_sub b1, by rw [a2.length, b2.length]; exact of_decide_eq_true h1, ?_, ?_, ?_⟩
  · intro z
    subst z
    refine hy H2 _ s ⟨p2, us, rfl, b1, ?_⟩
    have : x.l = [] := by have := a2.length; cases hx : x.l with | nil => rfl | cons _ _ => rw [hx] at this; simp at this
    rw [this]; exact b2
  · intro z z2
    subst z2
    refine hy H2 _ s ⟨p1, vs, rfl, a1, ?_⟩
    have : y.l = [] := by have := b2.length; cases hx : y.l with | nil => rfl | cons _ _ => rw [hx] at this; simp at this
    rw [this, List.append_nil]; exact a2
  · intro _ _ p np
    have s2 : Same H2 (upd H2 p (.tup (vs ++ us))) := same_upd np
    refine hy _ _ (s.trans s2) ⟨p, vs ++ us, rfl, .inl (.inl ?_), RpAll.mono (hide_same s2) (a2.append b2)⟩
    rw [hide_out fun z => (rs.mono s).dom p (reg_sub p z) np, upd_same]
theorem e_catTp {x y : Tup T} (ha : EG X W g ρ a (.ok x)) (hb : EG X W g ρ b (.ok y)) : EG X W g ρ (.BinOp a .Add b pos) (catT x y) := e_catT ha hb
instance [Rp T] : Len (Sq T) where
  len xs := .ok (xs.l.length : Int)
  ok {K B H v x Q} r h := by
    obtain ⟨t, l⟩ := x
    cases t with
    | true => exact Len.ok (T := Tup T) (x := Tup.mk l) r h
    | false => exact Len.ok (T := List T) (x := l) r h
theorem e_lensq {p : Pos} {x : Sq T} (ha : EG X W true ρ a (.ok x)) (hm : X.mg "len" = none) (hg : Gl X "len" := by rfl)
    (he : starEach [a] X.env = (false, eval a X.env) :: starEach [] X.env := by rfl) (hpl : (backTo pos (starEach [] X.env)).any (·.1) = false := by rfl) : EG X W g ρ (.Call (.Name "len" p) [a] [] pos) (.ok (x.l.length : Int)) := e_len ha hm hg he hpl
theorem i_zipsp (A B : Type) [Rp A] [Rp B] [Seqn A T] [Seqn B U] {x : A} {y : B} {p : Pos} {elts : List Expr} {kk : Nat} {tpos : Pos} (h : EG X W true ρ a (.ok x)) (h2 : EG X W true ρ c (.ok y)) (hm : X.mg "zip" = none) (hg : Gl X "zip" := by rfl)
    (he : starEach (a :: [c]) X.env = (false, eval a X.env) :: starEach [c] X.env := by rfl) (he2 : starEach (c :: []) X.env = (false, eval c X.env) :: starEach [] X.env := by rfl) (hpl : (backTo pos (starEach [c] X.env)).any (·.1) = false := by rfl) :
    IJ X W ρ (.Tuple elts kk tpos) (.Call (.Name "zip" p) [a, c] [] pos) (.ok ((Seqn.f x : List T).zip (Seqn.f y : List U))) := i_zips h h2 hm hg he he2 hpl
/-! ### index, in -/
class Flt (T : Type) [Rp T] [DecidableEq T] extends Scal T where
  fl : ∀ x : T, flatV (toV x) = true
  eq : ∀ x y : T, eqV (toV x) (toV y) = decide (x = y)
instance : Flt Int := { fl := fun _ => rfl, eq := fun x y => by simp [Scal.toV, eqV]; rfl }
instance : Flt Str := { fl := fun _ => rfl, eq := fun x y => by simp [Scal.toV, eqV]; rfl }
instance : Flt Bool := { fl := fun _ => rfl, eq := fun x y => by simp [Scal.toV, eqV]; rfl }
def indexM {α : Type} [DecidableEq α] (xs : List α) (x : α) : Res Int := match xs.findIdx? (fun y => decide (y = x)) with
  | some j => .ok ((j : Nat) : Int)
  | none => .bad
theorem flat_all [DecidableEq T] [Flt T] {K : PySem.W.Frag} {H : Hp} : ∀ {vs : List V} {xs : List T}, RpAll K H vs xs → vs = xs.map Scal.toV
  | _, _, .nil => rfl
  | _, _, .cons r t => by rw [List.map_cons, ← flat_all t, Scal.rel r]
theorem flat_map [DecidableEq T] [Flt T] (xs : List T) : (xs.map Scal.toV).all flatV = true := by
  rw [List.all_map]
  exact List.all_eq_true.mpr fun x _ => Flt.fl x
theorem in_map [DecidableEq T] [Flt T] (x : T) (xs : List T) : inV (Scal.toV x) (xs.map Scal.toV) = decide (x ∈ xs) := by
  unfold inV
  induction xs with
  | nil => simp
  | cons y r ih =>
    rw [List.map_cons, List.any_cons, ih, Flt.eq]
    by_cases h : y = x
    · subst h; simp
    · have h2 : ¬ x = y := fun z => h z.symm
      simp [h, h2]
theorem e_lindex [DecidableEq T] [Flt T] {ml : Res (List T)} {mx : Res T} {p2 : Pos} (hl : LG X W ρ a ml) (hx : EG X W true ρ e mx)
    (hbase : attributeBase a "index" X.env (eval a X.env) = eval a X.env := by rfl) (hline : (p2.endLine == pos.line) = true := by rfl) (hst : starEach (e :: []) X.env = (false, eval e X.env) :: starEach [] X.env := by rfl)
    (hpl : (backTo pos (starEach [] X.env)).any (·.1) = false := by rfl)
    (hfew : ((backTo pos (starEach (e :: []) X.env)).all (fun x => !x.1) && (backToKw pos (keywordEach [] X.env)).all (fun x => x.1.isSome) && decide ((e :: []).length + ([] : List Keyword).length + (if ([] : List Keyword).isEmpty then 0 else 1) < 30)) = true := by rfl) :
    EG X W g ρ (.Call (.Attribute a "index" p2) [e] [] pos) (ml.bind fun xs => mx.bind fun x => indexM xs x) := by
  obtain ⟨ta, pa, qa⟩ := hl.ex
  obtain ⟨tb, pb, qb⟩ := hx.ex
  refine ⟨_, pe_bm PySem.F.plainAttrs_list PySem.F.slot_list_index PySem.F.type_list_index mt_index pa (pa_cons pb pa_nil hst) hbase hfew hline hst hpl, fun S own σ H Q rs h => ?_⟩
  refine qa S own σ H _ rs (h.bind.imp (fun xs hxs H1 p vs s1 e1 e2 => ?_) fun _ z => z)
  refine ⟨.inl ⟨rfl, vs, .inl (.inl e1)⟩, ?_⟩
  refine qb S own σ H1 _ (rs.mono s1) (hxs.bind.imp (fun x hx H2 v s2 r => ?_) fun _ z => z.mono s1)
  have e3 := flat_all e2
  subst e3
  have r' := Scal.rel r
  subst r'
  unfold indexM at hx
  split at hx
  · rename_i j hj
    obtain ⟨h1, h2, h3⟩ := List.findIdx?_eq_some_iff_getElem.mp hj
    refine ⟨p, xs.map Scal.toV, Scal.toV x, j, Scal.toV xs[j], rfl, rfl, .inl (.inl (s2 _ _ e1)), Flt.fl x, flat_map xs, by rw [List.getElem?_map, List.getElem?_eq_getElem h1]; rfl, by rw [Flt.eq]; exact h2, fun m z' hm hz => ?_, hx H2 _ (s1.trans s2) rfl⟩
    rw [List.getElem?_map, List.getElem?_eq_getElem (by omega)] at hz
    cases hz
    rw [Flt.eq]
    exact Bool.eq_false_iff.mpr (h3 m hm)
  · exact hx.elim
theorem e_inl [DecidableEq T] [Flt T] {ma : Res T} {mb : Res (List T)} (ha : EG X W true ρ a ma) (hb : EG X W g ρ b mb) (hm : behindInMarks .In b = false := by rfl) : CJ X W ρ .In a b (ma.bind fun x => mb.bind fun y => .ok (decide (x ∈ y))) :=
  e_cmpR (f := fun x y => .ok (decide (x ∈ y))) op_in_seq hm ha hb (fun _ _ H x y v u Q r1 r2 h => by
    obtain ⟨p, vs, rfl, e1, e2⟩ := r2
    have e3 := flat_all e2
    subst e3
    have r' := Scal.rel r1
    subst r'
    refine ⟨p, _, rfl, .inl (.inl (.inl (hide_sub _ _ e1))), Flt.fl x, flat_map y, ?_⟩
    rw [in_map]
    exact h)
theorem e_ninl [DecidableEq T] [Flt T] {ma : Res T} {mb : Res (List T)} (ha : EG X W true ρ a ma) (hb : EG X W g ρ b mb) (hm : behindInMarks .NotIn b = false := by rfl) : CJ X W ρ .NotIn a b (ma.bind fun x => mb.bind fun y => .ok (!decide (x ∈ y))) :=
  e_cmpR (f := fun x y => .ok (!decide (x ∈ y))) op_notIn_seq hm ha hb (fun _ _ H x y v u Q r1 r2 h => by
    obtain ⟨p, vs, rfl, e1, e2⟩ := r2
    have e3 := flat_all e2
    subst e3
    have r' := Scal.rel r1
    subst r'
    refine ⟨p, _, rfl, .inl (.inl (.inl (hide_sub _ _ e1))), Flt.fl x, flat_map y, ?_⟩
    rw [in_map]
    exact h)
theorem e_intup [DecidableEq T] [Flt T] {ma : Res T} {mb : Res (Tup T)} (ha : EG X W true ρ a ma) (hb : EG X W g ρ b mb) (hm : behindInMarks .In b = false := by rfl) : CJ X W ρ .In a b (ma.bind fun x => mb.bind fun y => .ok (decide (x ∈ y.l))) :=
  e_cmpR (f := fun x y => .ok (decide (x ∈ y.l))) op_in_seq hm ha hb (fun _ _ H x y v u Q r1 r2 h => by
    obtain ⟨p, vs, rfl, e1, e2⟩ := r2
    have e3 := flat_all e2
    subst e3
    have r' := Scal.rel r1
    subst r'
    refine ⟨p, _, rfl, .inr (SqT.same hide_sub e1), Flt.fl x, flat_map y.l, ?_⟩
    rw [in_map]
    exact h)
theorem e_nintup [DecidableEq T] [Flt T] {ma : Res T} {mb : Res (Tup T)} (ha : EG X W true ρ a ma) (hb : EG X W g ρ b mb) (hm : behindInMarks .NotIn b = false := by rfl) : CJ X W ρ .NotIn a b (ma.bind fun x => mb.bind fun y => .ok (!decide (x ∈ y.l))) :=
  e_cmpR (f := fun x y => .ok (!decide (x ∈ y.l))) op_notIn_seq hm ha hb (fun _ _ H x y v u Q r1 r2 h => by
    obtain ⟨p, vs, rfl, e1, e2⟩ := r2
    have e3 := flat_all e2
    subst e3
    have r' := Scal.rel r1
    subst r'
    refine ⟨p, _, rfl, .inr (SqT.same hide_sub e1), Flt.fl x, flat_map y.l, ?_⟩
    rw [in_map]
    exact h)
end
end Py

set_option Elab.async false
set_option linter.all false
set_option maxRecDepth 100000
set_option maxHeartbeats 4000000
/-! Py, part W: defs that change their first parameters; len(set(..)), sorted. -/
namespace Py
open PySem PySem.Spec L2
open Rp (rp)
/-! ### kept lists taken out, put back -/
theorem Rs.take {K : PySem.W.Frag} {Hs H : Hp} {ρ : List Slot} {σ : St} {ads : List Addr} (r : Rs K Hs H ρ σ ads) : ∀ {i : Nat} {T : Type} {inst : Rp T} {ao : Option Addr} {xs : List T}, ρ[i]? = some (@Slot.own T inst ao xs) →
    ∃ a vs ads', σ[i]? = some (some (.ref a)) ∧ ads.Perm (a :: ads') ∧ H a = some (.lst vs) ∧ @RpAll T inst K Hs vs xs ∧ (∀ b, ao = some b → b = a) ∧ Rs K Hs H (ρ.set i .non) σ ads' := by
  induction r with
  | nil => intro i T inst ao xs e; cases e
  | non r ih =>
    intro i T inst ao xs e
    cases i with
    | zero => cases e
    | succ i =>
      obtain ⟨a, vs, ads', e1, e2, e3, e4, e5, q⟩ := ih (i := i) e
      exact ⟨a, vs, ads', e1, e2, e3, e4, e5, .non q⟩
  | val h r ih =>
    intro i T inst ao xs e
    cases i with
    | zero => cases e
    | succ i =>
      obtain ⟨a, vs, ads', e1, e2, e3, e4, e5, q⟩ := ih (i := i) e
      exact ⟨a, vs, ads', e1, e2, e3, e4, e5, .val h q⟩
  | own h0 h1 h2 r ih =>
    intro i T inst ao xs e
    cases i with
    | zero => cases e; exact ⟨_, _, _, rfl, List.Perm.refl _, h1, h2, h0, .non r⟩
    | succ i =>
      obtain ⟨a, vs, ads', e1, e2, e3, e4, e5, q⟩ := ih (i := i) e
      exact ⟨a, vs, _ :: ads', e1, (e2.cons _).trans (.swap _ _ _), e3, e4, e5, .own h0 h1 h2 q⟩
theorem Rs.put {K : PySem.W.Frag} {Hs H : Hp} {T : Type} [Rp T] {a : Addr} {vs : List V} {xs : List T} {ao : Option Addr} (e : H a = some (.lst vs)) (h : RpAll K Hs vs xs) (h0 : ∀ b, ao = some b → b = a) {ρ : List Slot} {σ : St} {ads : List Addr} (r : Rs K Hs H ρ σ ads) :
    ∀ {i : Nat}, ρ[i]? = some .non → σ[i]? = some (some (.ref a)) → ∃ ads', Rs K Hs H (ρ.set i (.own T ao xs)) σ ads' ∧ ads'.Perm (a :: ads) := by
  induction r with
  | nil => intro i e1; cases e1
  | non r ih =>
    intro i e1 e2
    cases i with
    | zero => cases e2; exact ⟨_, .own h0 e h r, List.Perm.refl _⟩
    | succ i =>
      obtain ⟨ads', q, p⟩ := ih (i := i) e1 e2
      exact ⟨ads', .non q, p⟩
  | val hv r ih =>
    intro i e1 e2
    cases i with
    | zero => cases e1
    | succ i =>
      obtain ⟨ads', q, p⟩ := ih (i := i) e1 e2
      exact ⟨ads', .val hv q, p⟩
  | own k0 k1 k2 r ih =>
    intro i e1 e2
    cases i with
    | zero => cases e1
    | succ i =>
      obtain ⟨ads', q, p⟩ := ih (i := i) e1 e2
      exact ⟨_ :: ads', .own k0 k1 k2 q, (p.cons _).trans (.swap _ _ _)⟩
theorem hide_congr {B B' : List Addr} {H : Hp} (h : ∀ c, c ∈ B ↔ c ∈ B') : hide B H = hide B' H := by
  funext c
  unfold hide
  by_cases hc : c ∈ B
  · rw [if_pos hc, if_pos ((h c).mp hc)]
  · rw [if_neg hc, if_neg fun z => hc ((h c).mpr z)]
theorem Post.qq {α : Type} {m : Res α} {Q : α → Prop} {E E' : Ex → Prop} (h : Post m.quiet Q E) : Post m.quiet Q E' := by
  cases m with
  | ok a => exact h
  | err e => exact h
  | bad => exact h
/-! ### the promise of such a def -/
def spM1 (K : PySem.W.Frag) {A T R : Type} [Rp T] [Rp R] (as : A → List AV) (f : List T × A → Res (R × List T)) : Sp := fun vs H Q E => ∃ (S : List Addr) (a : Addr) (ws vs' : List V) (xs : List T) (u : A), vs = .ref a :: vs' ∧ (∀ c ∈ S, H c ≠ none) ∧ a ∉ S ∧ H a = some (.lst ws) ∧
  RpAll K (hide (S ++ [a]) H) ws xs ∧ ArgsR K (hide (S ++ [a]) H) vs' (as u) ∧
  Post (f (xs, u)).quiet (fun y => ∀ H' v own' ws', Ext [a] H own' H' → (∀ c ∈ own', H' c ≠ none) → a ∈ own' → H' a = some (.lst ws') → RpAll K (hide (S ++ own') H') ws' y.2 → rp K (hide (S ++ own') H') v y.1 → Q v H') fun _ => False
def spM2 (K : PySem.W.Frag) {A T U R : Type} [Rp T] [Rp U] [Rp R] (as : A → List AV) (f : List T × List U × A → Res (R × List T × List U)) : Sp := fun vs H Q E => ∃ (S : List Addr) (a b : Addr) (ws zs vs' : List V) (xs : List T) (ys : List U) (u : A), vs = .ref a :: .ref b :: vs' ∧ (∀ c ∈ S, H c ≠ none) ∧ a ∉ S ∧ b ∉ S ∧ a ≠ b ∧ H a = some (.lst ws) ∧ H b = some (.lst zs) ∧
  RpAll K (hide (S ++ [a, b]) H) ws xs ∧ RpAll K (hide (S ++ [a, b]) H) zs ys ∧ ArgsR K (hide (S ++ [a, b]) H) vs' (as u) ∧
  Post (f (xs, ys, u)).quiet (fun y => ∀ H' v own' ws' zs', Ext [a, b] H own' H' → (∀ c ∈ own', H' c ≠ none) → a ∈ own' → b ∈ own' → H' a = some (.lst ws') → H' b = some (.lst zs') → RpAll K (hide (S ++ own') H') ws' y.2.1 → RpAll K (hide (S ++ own') H') zs' y.2.2 → rp K (hide (S ++ own') H') v y.1 → Q v H') fun _ => False
abbrev MGp (X : Cx) (W : WX) (ρ : List Slot) (t : TE) {R M : Type} [Rp R] (n : M → List Slot) (m : Res (R × M)) : Prop :=
  ∀ (S own : List Addr) (σ : St) (H : Hp) (Q : VK), RS X.K S ρ σ H own → Post m (fun y => ∀ H' v own', Ext own H own' H' → RS X.K S (n y.2) σ H' own' → rp X.K (hide (S ++ own') H') v y.1 → Q v H') (ErrX X W S own σ H) → t σ H Q
/-- an expression that changes kept lists -/
structure MG (X : Cx) (W : WX) (ρ : List Slot) (e : Expr) {R M : Type} [Rp R] (n : M → List Slot) (m : Res (R × M)) : Prop where
  ex : ∃ t, PE X e t ∧ MGp X W ρ t n m
def retM (R : Type) [Rp R] {M : Type} (sl : M → List Slot) : Rt (R × M) := ⟨fun r => sl r.2, fun K S own H v r => rp K (hide (S ++ own) H) v r.1⟩
section
variable {A R T U M : Type} [Rp R] [Rp T] [Rp U] {X : Cx} {W : WX} {ρe : Option (List Slot)} {ρ : List Slot} {e tg : Expr} {pos : Pos} {lv : Nat} {as : A → List AV} {rest : List Stmt}
theorem m_call1 (i : Nat) {x n1 : Str} {p p1 : Pos} {es : List Expr} {ao : Option Addr} {xs : List T} {f : List T × A → Res (R × List T)} {m : Res (R × List T)} {k : Nat} {n : List T → List Slot} (C : CtxOk X W lv) (F : FOk X.prog X.w X.K X.mg X.base x k (spM1 X.K as f))
    (ha : AJ X W true ρ es as (fun u => (f (xs, u)).quiet) m) (hi : ρ[i]? = some (Slot.own T ao xs) := by rfl) (hn : ∀ y, n y = ρ.set i (.own T ao y) := by intro _; rfl) (hk : k ≤ lv := by decide)
    (hN1 : X.N[i]? = some n1 := by rfl) (hv1 : Vis X.env.scope n1 := by first | exact Or.inl rfl | exact Or.inr (Or.inl rfl) | exact Or.inr (Or.inr rfl)) (hd1 : (n1 == ("__debug__" : Str)) = false := by decide) (hcd1 : (n1 == ("__classdict__" : Str)) = false := by decide)
    (hg : Gl X x := by rfl) (hdb : (x == ("__debug__" : Str)) = false := by decide) (he : starEach (.Name n1 p1 :: es) X.env = (false, eval (.Name n1 p1) X.env) :: starEach es X.env := by rfl) (hpl : (backTo pos (starEach es X.env)).any (·.1) = false := by rfl) :
    MG X W ρ (.Call (.Name x p) (.Name n1 p1 :: es) [] pos) n m := by
  obtain ⟨t, pa, qa⟩ := ha.ex
  obtain ⟨fd, ps, F1, F2⟩ := F.ok
  refine ⟨_, pe_callS F1 (C.room.mono hk) hg F.gl F.kp F2 (fun σ => L2N.passAt C.tk σ) (pa_cons (pe_var hN1 hv1 hd1 hcd1) pa he) hdb he hpl, fun S own σ H Q rs h => ?_⟩
  obtain ⟨ads, r, nd, sub⟩ := rs.rs
  obtain ⟨a, ws, ads1, ea, pa1, ha1, hr1, h01, r1⟩ := r.take hi
  have ao_ : a ∈ own := sub a (pa1.symm.subset List.mem_cons_self)
  refine ⟨.ref a, ea, qa S own σ H _ _ _ rs (fun e z => z) h fun u vs' H1 s1 ra hu => ?_⟩
  have hset : ∀ G : Hp, hide ((S ++ own.filter fun c => decide (c ≠ a)) ++ [a]) G = hide (S ++ own) G := fun G => hide_congr fun c => by
    simp only [List.mem_append, List.mem_filter, List.mem_singleton, decide_eq_true_eq]
    constructor
    · rintro ((z | z) | z)
      · exact .inl z
      · exact .inr z.1
      · exact .inr (z ▸ ao_)
    · rintro (z | z)
      · exact .inl (.inl z)
      · by_cases q : c = a
        · exact .inr q
        · exact .inl (.inr ⟨z, q⟩)
  refine ⟨S ++ own.filter fun c => decide (c ≠ a), a, ws, vs', xs, u, rfl, fun c hc => ?_, fun hc => ?_, s1 _ _ ha1, ?_, ?_, (Post.qq hu).imp (fun y hy H' v own' ws' x' dm ma e1 q1 rv => ?_) fun _ z => z⟩
  · rcases List.mem_append.mp hc with z | z
    · exact (rs.mono s1).dom c (List.mem_append_left _ z)
    · exact (rs.mono s1).dom c (List.mem_append_right _ (List.mem_filter.mp z).1)
  · rcases List.mem_append.mp hc with z | z
    · exact rs.out a ao_ z
    · exact of_decide_eq_true (List.mem_filter.mp z).2 rfl
  · rw [hset]; exact RpAll.mono (hide_same s1) hr1
  · rw [hset]; exact ra
  · have xe : Ext own H (own.filter (fun c => decide (c ≠ a)) ++ own') H' := by
      refine ⟨fun b o z hb => x'.same b o (s1 b o z) fun q => hb (List.mem_singleton.mp q ▸ ao_), fun b z => x'.dom b (dom_same s1 z), fun b hb => ?_⟩
      rcases List.mem_append.mp hb with z | z
      · exact .inl (List.mem_filter.mp z).1
      · rcases x'.own b z with q | q
        · exact .inl (List.mem_singleton.mp q ▸ ao_)
        · exact .inr (s1.free q)
    have sg : Same (hide (S ++ own) H) (hide (S ++ (own.filter (fun c => decide (c ≠ a)) ++ own')) H') := xe.sight fun _ _ _ => trivial
    rw [List.append_assoc] at q1 rv
    have nd1 : (a :: ads1).Nodup := pa1.nodup_iff.mp nd
    have r2 := r1.mono sg fun c hc o z => x'.same c o (s1 c o z) fun q => (List.nodup_cons.mp nd1).1 (List.mem_singleton.mp q ▸ hc)
    obtain ⟨ads2, r3, p3⟩ := Rs.put e1 q1 h01 r2 (i := i) (List.getElem?_set_self (List.getElem?_eq_some_iff.mp hi).1) ea
    refine hy H' v _ xe ⟨⟨ads2, ?_, p3.nodup_iff.mpr nd1, fun c hc => ?_⟩, fun c hc => ?_, fun c hc => ?_⟩ rv
    · rw [hn, ← List.set_set (a := Slot.non)]; exact r3
    · rcases List.mem_cons.mp (p3.subset hc) with z | z
      · exact List.mem_append_right _ (z ▸ ma)
      · exact List.mem_append_left _ (List.mem_filter.mpr ⟨sub c (pa1.symm.subset (List.mem_cons_of_mem _ z)), decide_eq_true fun q => (List.nodup_cons.mp nd1).1 (q ▸ z)⟩)
    · rcases xe.own c hc with z | z
      · exact rs.out c z
      · exact fun q => rs.dom c (List.mem_append_left _ q) z
    · rcases List.mem_append.mp hc with z | z
      · exact xe.dom c (rs.dom c (List.mem_append_left _ z))
      · rcases List.mem_append.mp z with z | z
        · exact xe.dom c (rs.dom c (List.mem_append_right _ (List.mem_filter.mp z).1))
        · exact dm c z
theorem m_call2 (i j : Nat) {x n1 n2 : Str} {p p1 p2 : Pos} {es : List Expr} {ao bo : Option Addr} {xs : List T} {ys : List U} {f : List T × List U × A → Res (R × List T × List U)} {m : Res (R × List T × List U)} {k : Nat} {n : List T × List U → List Slot} (C : CtxOk X W lv) (F : FOk X.prog X.w X.K X.mg X.base x k (spM2 X.K as f))
    (ha : AJ X W true ρ es as (fun u => (f (xs, ys, u)).quiet) m) (hi : ρ[i]? = some (Slot.own T ao xs) := by rfl) (hj : ρ[j]? = some (Slot.own U bo ys) := by rfl) (hij : i ≠ j := by decide) (hn : ∀ y, n y = (ρ.set i (.own T ao y.1)).set j (.own U bo y.2) := by intro _; rfl) (hk : k ≤ lv := by decide)
    (hN1 : X.N[i]? = some n1 := by rfl) (hv1 : Vis X.env.scope n1 := by first | exact Or.inl rfl | exact Or.inr (Or.inl rfl) | exact Or.inr (Or.inr rfl)) (hd1 : (n1 == ("__debug__" : Str)) = false := by decide) (hcd1 : (n1 == ("__classdict__" : Str)) = false := by decide)
    (hN2 : X.N[j]? = some n2 := by rfl) (hv2 : Vis X.env.scope n2 := by first | exact Or.inl rfl | exact Or.inr (Or.inl rfl) | exact Or.inr (Or.inr rfl)) (hd2 : (n2 == ("__debug__" : Str)) = false := by decide) (hcd2 : (n2 == ("__classdict__" : Str)) = false := by decide)
    (hg : Gl X x := by rfl) (hdb : (x == ("__debug__" : Str)) = false := by decide) (he : starEach (.Name n1 p1 :: .Name n2 p2 :: es) X.env = (false, eval (.Name n1 p1) X.env) :: starEach (.Name n2 p2 :: es) X.env := by rfl) (he2 : starEach (.Name n2 p2 :: es) X.env = (false, eval (.Name n2 p2) X.env) :: starEach es X.env := by rfl) (hpl : (backTo pos (starEach (.Name n2 p2 :: es) X.env)).any (·.1) = false := by rfl) :
    MG X W ρ (.Call (.Name x p) (.Name n1 p1 :: .Name n2 p2 :: es) [] pos) n m := by
  obtain ⟨t, pa, qa⟩ := ha.ex
  obtain ⟨fd, ps, F1, F2⟩ := F.ok
  refine ⟨_, pe_callS F1 (C.room.mono hk) hg F.gl F.kp F2 (fun σ => L2N.passAt C.tk σ) (pa_cons (pe_var hN1 hv1 hd1 hcd1) (pa_cons (pe_var hN2 hv2 hd2 hcd2) pa he2) he) hdb he hpl, fun S own σ H Q rs h => ?_⟩
  obtain ⟨ads, r, nd, sub⟩ := rs.rs
  obtain ⟨a, ws, ads1, ea, pa1, ha1, hr1, h01, r1⟩ := r.take hi
  have hj' : (ρ.set i .non)[j]? = some (Slot.own U bo ys) := by rw [List.getElem?_set_ne hij]; exact hj
  obtain ⟨b, zs, ads2, eb, pb1, hb1, hr2, h02, r2⟩ := r1.take hj'
  have pall : ads.Perm (a :: b :: ads2) := pa1.trans (pb1.cons a)
  have nd1 : (a :: b :: ads2).Nodup := pall.nodup_iff.mp nd
  have nab : a ≠ b := fun z => (List.nodup_cons.mp nd1).1 (z ▸ List.mem_cons_self)
  have na2 : ∀ c ∈ ads2, c ≠ a := fun c hc z => (List.nodup_cons.mp nd1).1 (z ▸ List.mem_cons_of_mem _ hc)
  have nb2 : ∀ c ∈ ads2, c ≠ b := fun c hc z => (List.nodup_cons.mp (List.nodup_cons.mp nd1).2).1 (z ▸ hc)
  have ao_ : a ∈ own := sub a (pall.symm.subset List.mem_cons_self)
  have bo_ : b ∈ own := sub b (pall.symm.subset (List.mem_cons_of_mem _ List.mem_cons_self))
  refine ⟨.ref a, ea, .ref b, eb, qa S own σ H _ _ _ rs (fun e z => z) h fun u vs' H1 s1 ra hu => ?_⟩
  have hset : ∀ G : Hp, hide ((S ++ own.filter fun c => decide (c ≠ a ∧ c ≠ b)) ++ [a, b]) G = hide (S ++ own) G := fun G => hide_congr fun c => by
    simp only [List.mem_append, List.mem_filter, List.mem_cons, List.not_mem_nil, or_false, decide_eq_true_eq]
    constructor
    · rintro ((z | z) | z | z)
      · exact .inl z
      · exact .inr z.1
      · exact .inr (z ▸ ao_)
      · exact .inr (z ▸ bo_)
    · rintro (z | z)
      · exact .inl (.inl z)
      · by_cases q : c = a
        · exact .inr (.inl q)
        · by_cases q2 : c = b
          · exact .inr (.inr q2)
          · exact .inl (.inr ⟨z, q, q2⟩)
  have hout : ∀ c, c ∈ (own.filter fun c => decide (c ≠ a ∧ c ≠ b)) → c ∈ own ∧ c ≠ a ∧ c ≠ b := fun c hc => ⟨(List.mem_filter.mp hc).1, of_decide_eq_true (List.mem_filter.mp hc).2⟩
  refine ⟨S ++ own.filter fun c => decide (c ≠ a ∧ c ≠ b), a, b, ws, zs, vs', xs, ys, u, rfl, fun c hc => ?_, fun hc => ?_, fun hc => ?_, nab, s1 _ _ ha1, s1 _ _ hb1, ?_, ?_, ?_, (Post.qq hu).imp (fun y hy H' v own' ws' zs' x' dm ma mb e1 e2 q1 q2 rv => ?_) fun _ z => z⟩
  · rcases List.mem_append.mp hc with z | z
    · exact (rs.mono s1).dom c (List.mem_append_left _ z)
    · exact (rs.mono s1).dom c (List.mem_append_right _ (hout c z).1)
  · rcases List.mem_append.mp hc with z | z
    · exact rs.out a ao_ z
    · exact (hout a z).2.1 rfl
  · rcases List.mem_append.mp hc with z | z
    · exact rs.out b bo_ z
    · exact (hout b z).2.2 rfl
  · rw [hset]; exact RpAll.mono (hide_same s1) hr1
  · rw [hset]; exact RpAll.mono (hide_same s1) hr2
  · rw [hset]; exact ra
  · have hab : ∀ c, c ∈ [a, b] → c = a ∨ c = b := fun c hc => by
      rcases List.mem_cons.mp hc with z | z
      · exact .inl z
      · exact .inr (List.mem_singleton.mp z)
    have xe : Ext own H (own.filter (fun c => decide (c ≠ a ∧ c ≠ b)) ++ own') H' := by
      refine ⟨fun c o z hc => x'.same c o (s1 c o z) fun q => (hab c q).elim (fun q => hc (q ▸ ao_)) fun q => hc (q ▸ bo_), fun c z => x'.dom c (dom_same s1 z), fun c hc => ?_⟩
      rcases List.mem_append.mp hc with z | z
      · exact .inl (hout c z).1
      · rcases x'.own c z with q | q
        · exact .inl ((hab c q).elim (fun q => q ▸ ao_) fun q => q ▸ bo_)
        · exact .inr (s1.free q)
    have sg : Same (hide (S ++ own) H) (hide (S ++ (own.filter (fun c => decide (c ≠ a ∧ c ≠ b)) ++ own')) H') := xe.sight fun _ _ _ => trivial
    rw [List.append_assoc] at q1 q2 rv
    have r3 := r2.mono sg fun c hc o z => x'.same c o (s1 c o z) fun q => (hab c q).elim (na2 c hc) (nb2 c hc)
    have li : i < ρ.length := (List.getElem?_eq_some_iff.mp hi).1
    have lj : j < ρ.length := (List.getElem?_eq_some_iff.mp hj).1
    obtain ⟨ads3, r4, p4⟩ := Rs.put e2 q2 h02 r3 (i := j) (List.getElem?_set_self (by rw [List.length_set]; exact lj)) eb
    obtain ⟨ads4, r5, p5⟩ := Rs.put e1 q1 h01 r4 (i := i) (by rw [List.getElem?_set_ne (Ne.symm hij), List.getElem?_set_ne (Ne.symm hij)]; exact List.getElem?_set_self li) ea
    have p6 : ads4.Perm (a :: b :: ads2) := p5.trans (p4.cons a)
    refine hy H' v _ xe ⟨⟨ads4, ?_, p6.nodup_iff.mpr nd1, fun c hc => ?_⟩, fun c hc => ?_, fun c hc => ?_⟩ rv
    · have e : n y.2 = ((((ρ.set i .non).set j .non).set j (.own U bo y.2.2)).set i (.own T ao y.2.1)) := by
        rw [hn, List.set_set, List.set_comm _ _ (Ne.symm hij), List.set_set]
      rw [e]; exact r5
    · rcases List.mem_cons.mp (p6.subset hc) with z | z
      · exact List.mem_append_right _ (z ▸ ma)
      · rcases List.mem_cons.mp z with z | z
        · exact List.mem_append_right _ (z ▸ mb)
        · exact List.mem_append_left _ (List.mem_filter.mpr ⟨sub c (pall.symm.subset (List.mem_cons_of_mem _ (List.mem_cons_of_mem _ z))), decide_eq_true ⟨na2 c z, nb2 c z⟩⟩)
    · rcases xe.own c hc with z | z
      · exact rs.out c z
      · exact fun q => rs.dom c (List.mem_append_left _ q) z
    · rcases List.mem_append.mp hc with z | z
      · exact xe.dom c (rs.dom c (List.mem_append_left _ z))
      · rcases List.mem_append.mp z with z | z
        · exact xe.dom c (rs.dom c (List.mem_append_right _ (hout c z).1))
        · exact dm c z
theorem n_setM (i : Nat) {x : Str} {m : Res (R × M)} {n : M → List Slot} {p2 : Pos} {n3 : R × M → List Slot} (nd : X.N.Nodup) (h : MG X W ρ e n m) (hn : ∀ v, n3 v = (n v.2).set i (.val R v.1) := by intro _; rfl) (w : WkO ρ ρe := by first | exact True.intro | (repeat (first | exact Wk.nil | refine Wk.s ?_ | refine Wk.n ?_))) (hi : X.N[i]? = some x := by rfl) (hx : Loc X.env.scope x := by first | exact Or.inl rfl | exact Or.inr rfl)
    (hs : swapsWith e (some (.Name x p2)) pos.line X.env = pure false := by rfl) (hf : X.fn x = true ∨ X.env.scope.names.lookup x = some .local := by first | exact .inl rfl | exact .inr rfl | assumption) : N1 X W ρe ρ (.Assign [.Name x p2] e pos) n3 m := by
  obtain ⟨t, p, q⟩ := h.ex
  refine ⟨_, ps_set nd hi hx p hs hf, fun S own σ H D rs h => q S own σ H _ rs (h.imp (fun y hy H' v own' x' rs' rv => hy _ H' own' x' ?_) fun _ z => z.toX rs w)⟩
  rw [hn]
  exact rs'.set rv i
theorem n_exprM {m : Res (R × M)} {n : M → List Slot} {n3 : R × M → List Slot} (h : MG X W ρ e n m) (hn : ∀ v, n3 v = n v.2 := by intro _; rfl) (w : WkO ρ ρe := by first | exact True.intro | (repeat (first | exact Wk.nil | refine Wk.s ?_ | refine Wk.n ?_))) (hs : swapsWith e none pos.line X.env = pure false := by rfl) : N1 X W ρe ρ (.Expr e pos) n3 m := by
  obtain ⟨t, p, q⟩ := h.ex
  refine ⟨_, ps_expr p hs, fun S own σ H D rs h => q S own σ H _ rs (h.imp (fun y hy H' v own' x' rs' rv => hy _ H' own' x' ?_) fun _ z => z.toX rs w)⟩
  rw [hn]
  exact rs'
theorem n_unpM {m : Res (R × M)} {n : M → List Slot} {u : List Slot → R → List Slot} {js : List Nat} {n3 : R × M → List Slot} (h : MG X W ρ e n m) (hg : GJ X tg u js) (hn : ∀ v, n3 v = u (n v.2) v.1 := by intro _; rfl) (w : WkO ρ ρe := by first | exact True.intro | (repeat (first | exact Wk.nil | refine Wk.s ?_ | refine Wk.n ?_)))
    (hs : swapsWithSole [tg] e pos.line X.env = pure false := by rfl) (hw : swappedStores [tg] e X.env = pure none := by rfl) (h1 : (assignEach [tg] X.env).map (·.2) = [assign tg X.env] := by rfl) : N1 X W ρe ρ (.Assign [tg] e pos) n3 m := by
  obtain ⟨t, p, q⟩ := h.ex
  obtain ⟨gt, pg, qg⟩ := hg.ex
  refine ⟨_, ps_asg p pg hs hw h1, fun S own σ H D rs h => ?_⟩
  refine q S own σ H _ rs (h.imp (fun y hy H' v own' x' rs' rv => qg S own' (n y.2) σ H' v _ _ rs' rv fun σ' rs2 _ => hy σ' H' own' x' ?_) fun _ z => z.toX rs w)
  rw [hn]
  exact rs2
theorem r_retM {m : Res R} {sl : M → List Slot} (c : M) (h : EG X W true ρ e m) (w2 : Wk ρ (sl c)) (w : WkO ρ ρe := by first | exact True.intro | (repeat (first | exact Wk.nil | refine Wk.s ?_ | refine Wk.n ?_))) : SR X W ρe ρ (.Return (some e) pos :: rest) (retM R sl) (m.bind fun x => .ok (x, c)) := by
  obtain ⟨t, p, q⟩ := h.ex
  refine ⟨_, pss_cons (ps_ret p) pss_never, fun S own σ H D rs h => ?_⟩
  exact q S own σ H D.rt rs (h.bind.imp (fun x hx H' v s r => hx v σ H' own (Ext.of_same s) ((rs.mono s).wk w2) r) fun _ z => z.toX rs w)
theorem r_retMp {v : R} {sl : M → List Slot} (c : M) (h : EG X W true ρ e (.ok v)) (w2 : Wk ρ (sl c)) (w : WkO ρ ρe := by first | exact True.intro | (repeat (first | exact Wk.nil | refine Wk.s ?_ | refine Wk.n ?_))) : SR X W ρe ρ (.Return (some e) pos :: rest) (retM R sl) (.ok (v, c)) := r_retM c h w2 w
end
section
variable {P : Program} {w : World} {K : PySem.W.Frag} {mg : Str → Option Value} {base : Heap} {x qual : Str} {params : Arguments} {body : List Stmt} {scope : Scope} {kws : List (Str × V)} {fd : FuncData} {N ps : List Str} {k : Nat} {A : Type} {as : A → List AV} {R T U : Type} [Rp R] [Rp T] [Rp U]
theorem fok_m1 {f : List T × A → Res (R × List T)} {ρ0 : Addr → List T × A → List Slot} {sl : Addr → List T → List Slot} (F : FunD K x qual params body scope [] kws (He.ga K x) fd) (hgl : mg x = some (.ref (He.ga K x))) (S : FnScope N ps scope) (hb : Binds K fd ps [])
    (hl : ∀ u, (as u).length + 1 = ps.length := by intro _; rfl)
    (h0 : ∀ a u, ρ0 a u = .own T (some a) u.1 :: ((as u.2).map AV.slot ++ List.replicate (N.length - ps.length) .non) := by intro _ _; rfl)
    (hsl : ∀ a y, ∃ r, sl a y = .own T (some a) y :: r := by intro _ _; exact ⟨_, rfl⟩)
    (d : ∀ cdv A outer s H E, CtxOk (fcx P w K mg base N qual scope (He.ga K x) cdv A outer s H E) (fun c d _ H' => E c d H') k → ∀ a u, SR (fcx P w K mg base N qual scope (He.ga K x) cdv A outer s H E) (fun c d _ H' => E c d H') none (ρ0 a u) body (retM R (sl a)) (f u)) :
    FOk P w K mg base x (k + 1) (spM1 K as f) := by
  refine ⟨⟨fd, ps, FunD.ok F S (fun vs H Q E h => ?_) (fun cdv A outer s H vs Q E hr h => ?_), hb⟩, F.kp, hgl⟩
  · obtain ⟨S', a, ws, vs', xs, u, rfl, _, _, _, _, rv, _⟩ := h
    rw [List.length_cons, rv.length, hl]
  · obtain ⟨S', a, ws, vs', xs, u, rfl, hd, na, ea, ra, rv, hp⟩ := h
    obtain ⟨t, p, q⟩ := (d cdv A outer s H E (fctx S hr) a (xs, u)).ex
    refine ⟨t, p, q S' [a] _ H _ ?_ ((hp.quiet (E' := fun _ => False)).imp (fun y hy v σ' H' own' x' rs' z => ?_) fun e he => he.elim)⟩
    · rw [h0]
      refine ⟨⟨[a], Rs.own (fun _ e => by cases e; rfl) ea ra ?_, List.nodup_cons.mpr ⟨List.not_mem_nil, List.nodup_nil⟩, fun c hc => hc⟩, fun c hc => List.mem_singleton.mp hc ▸ na, fun c hc => ?_⟩
      · have e : (V.ref a :: vs').length = ps.length := by rw [List.length_cons, rv.length, hl]
        rw [e]
        exact rs_args rv _
      · rcases List.mem_append.mp hc with z | z
        · exact hd c z
        · rw [List.mem_singleton.mp z, ea]; intro w; cases w
    · obtain ⟨ads, r, nd, sub⟩ := rs'.rs
      obtain ⟨r0, er⟩ := hsl a y.2
      have r' : Rs K (hide (S' ++ own') H') H' (sl a y.2) σ' ads := r
      rw [er] at r'
      cases r' with
      | own h0 e1 e2 r2 =>
        have := h0 a rfl
        subst this
        exact hy H' v own' _ x' (fun c hc => rs'.dom c (List.mem_append_right _ hc)) (sub _ List.mem_cons_self) e1 e2 z
theorem fok_m2 {f : List T × List U × A → Res (R × List T × List U)} {ρ0 : Addr → Addr → List T × List U × A → List Slot} {sl : Addr → Addr → List T × List U → List Slot} (F : FunD K x qual params body scope [] kws (He.ga K x) fd) (hgl : mg x = some (.ref (He.ga K x))) (S : FnScope N ps scope) (hb : Binds K fd ps [])
    (hl : ∀ u, (as u).length + 2 = ps.length := by intro _; rfl)
    (h0 : ∀ a b u, ρ0 a b u = .own T (some a) u.1 :: .own U (some b) u.2.1 :: ((as u.2.2).map AV.slot ++ List.replicate (N.length - ps.length) .non) := by intro _ _ _; rfl)
    (hsl : ∀ a b y, ∃ r, sl a b y = .own T (some a) y.1 :: .own U (some b) y.2 :: r := by intro _ _ _; exact ⟨_, rfl⟩)
    (d : ∀ cdv A outer s H E, CtxOk (fcx P w K mg base N qual scope (He.ga K x) cdv A outer s H E) (fun c d _ H' => E c d H') k → ∀ a b u, SR (fcx P w K mg base N qual scope (He.ga K x) cdv A outer s H E) (fun c d _ H' => E c d H') none (ρ0 a b u) body (retM R (sl a b)) (f u)) :
    FOk P w K mg base x (k + 1) (spM2 K as f) := by
  refine ⟨⟨fd, ps, FunD.ok F S (fun vs H Q E h => ?_) (fun cdv A outer s H vs Q E hr h => ?_), hb⟩, F.kp, hgl⟩
  · obtain ⟨S', a, b, ws, zs, vs', xs, ys, u, rfl, _, _, _, _, _, _, _, _, rv, _⟩ := h
    rw [List.length_cons, List.length_cons, rv.length, ← hl u]
  · obtain ⟨S', a, b, ws, zs, vs', xs, ys, u, rfl, hd, na, nb, nab, ea, eb, ra, rb, rv, hp⟩ := h
    obtain ⟨t, p, q⟩ := (d cdv A outer s H E (fctx S hr) a b (xs, ys, u)).ex
    refine ⟨t, p, q S' [a, b] _ H _ ?_ ((hp.quiet (E' := fun _ => False)).imp (fun y hy v σ' H' own' x' rs' z => ?_) fun e he => he.elim)⟩
    · rw [h0]
      refine ⟨⟨[a, b], Rs.own (fun _ e => by cases e; rfl) ea ra (Rs.own (fun _ e => by cases e; rfl) eb rb ?_), List.nodup_cons.mpr ⟨fun z => nab (List.mem_singleton.mp z), List.nodup_cons.mpr ⟨List.not_mem_nil, List.nodup_nil⟩⟩, fun c hc => hc⟩, fun c hc => ?_, fun c hc => ?_⟩
      · have e : (V.ref a :: V.ref b :: vs').length = ps.length := by rw [List.length_cons, List.length_cons, rv.length, ← hl u]
        rw [e]
        exact rs_args rv _
      · rcases List.mem_cons.mp hc with z | z
        · exact z ▸ na
        · exact List.mem_singleton.mp z ▸ nb
      · rcases List.mem_append.mp hc with z | z
        · exact hd c z
        · rcases List.mem_cons.mp z with z | z
          · rw [z, ea]; intro w; cases w
          · rw [List.mem_singleton.mp z, eb]; intro w; cases w
    · obtain ⟨ads, r, nd, sub⟩ := rs'.rs
      obtain ⟨r0, er⟩ := hsl a b y.2
      have r' : Rs K (hide (S' ++ own') H') H' (sl a b y.2) σ' ads := r
      rw [er] at r'
      cases r' with
      | own h0 e1 e2 r2 =>
        cases r2 with
        | own k0 k1 k2 r3 =>
          have := h0 a rfl
          subst this
          have := k0 b rfl
          subst this
          exact hy H' v own' _ _ x' (fun c hc => rs'.dom c (List.mem_append_right _ hc)) (sub _ List.mem_cons_self) (sub _ (List.mem_cons_of_mem _ List.mem_cons_self)) e1 k1 e2 k2 z
end
end Py

set_option Elab.async false
set_option linter.all false
set_option maxRecDepth 100000
set_option maxHeartbeats 4000000
/-! Py, part T: len(set(..)), sorted, list(range(..)). -/
namespace Py
open PySem PySem.Spec L2
open Rp (rp)
/-! ### len(set(xs)) -/
def nubI (xs : List Int) : List Int := xs.foldl PyProof.Rows.step_dedup []
theorem firstMet_nub (ns : List Int) : PyProof.Rows.firstMet (fun i => ns.getD i 0) ns.length = nubI ns := by
  unfold PyProof.Rows.firstMet nubI
  congr 1
  apply List.ext_getElem
  · simp
  · intro i h1 h2
    rw [List.getElem_map, List.getElem_range, List.getD_eq_getElem?_getD, List.getElem?_eq_getElem h2]
    rfl
def tLenSetG (K : PySem.W.Frag) (ta : TE) : TE := fun σ H Q => ta σ H fun x H1 => ∃ (l : Addr) (ns : List Int), x = .ref l ∧ SqL K H1 l (ns.map V.int) ∧ ns.length ≤ 4000 ∧ Q (.int ((nubI ns).length : Nat)) H1
theorem pe_lenSetG {X : Cx} {a : Expr} {ta : TE} {p p2 q pos : Pos} (hg : Gl X "len") (hm : X.mg "len" = none) (hg2 : Gl X "set") (hm2 : X.mg "set" = none) (ha : PE X a ta) (hc : X.calm = true)
    (na : starEach [a] X.env = (false, eval a X.env) :: starEach [] X.env := by rfl) : PE X (.Call (.Name "len" p) [.Call (.Name "set" p2) [a] [] q] [] pos) (tLenSetG X.K ta) := by
  refine ⟨fun pins s σ H Q I h => ?_⟩
  refine PyProof.Rows.Call_ (ld_blt I hg hm PySem.boot_len ?_)
  refine PyProof.Rows.callWith_builtin1 (PyProof.Rows.args_cons ?_ rfl) rfl rfl
  refine PyProof.Rows.Call_ (ld_blt I hg2 hm2 PyProof.Rows.boot_set ?_)
  refine PyProof.Rows.callWith_type1 (PyProof.Rows.args_cons (thn (ha.run pins s σ H _ I h) fun v s1 ⟨x, H1, I1, r1, q1⟩ => PyProof.Rows.args_nil ?_) na) na rfl
  obtain ⟨l, ns, rfl, hq, hl, q1⟩ := q1
  cases r1
  obtain ⟨its, r, pl, hz⟩ := I1.list hq
  have hlen : its.toArray.size = ns.length := by rw [List.size_toArray, ← r.length, List.length_map]
  refine call_set_list (I1.ok.hd hc) pl.isList (ns := ns) (by simpa using r.ints) (by rw [hlen]; unfold scanBound; omega) fun h' tk hS hk => ?_
  refine PyProof.Rows.args_nil ?_
  have hle := PyProof.Rows.firstMet_length_le (fun i => ns.getD i 0) ns.length
  rw [hlen, firstMet_nub] at hS
  rw [firstMet_nub] at hle
  obtain ⟨o, es, ep, t, ho, hex, hd, _, _, _, hf, hn⟩ := hS
  have I2 : Inv X pins σ H1 { s1 with heap := h', toks := tk } := I1.kept fun b o e => hk b o (Heap.lt_size e) e
  exact call_len_set ho hex hd hf (by rw [hn] <;> omega) ⟨.int ((nubI ns).length : Nat), H1, I2.tok _, ⟨_, by rw [hn]⟩, q1⟩
instance {A B C : Type} [Rp A] [Rp B] [Rp C] [Dat A] [Dat B] [Dat C] : Dat (T3 A B C) where
  toD p := .tuple [Dat.toD p.a, Dat.toD p.b, Dat.toD p.c]
  ok p := Dat.ok p.a && (Dat.ok p.b && Dat.ok p.c)
  dp {K H v x} h := by
    obtain ⟨a, vs, rfl, e1, e2⟩ := h
    cases e2 with
    | cons r1 e2 =>
      cases e2 with
      | cons r2 e2 =>
        cases e2 with
        | cons r3 e2 =>
          cases e2
          exact .tup e1 (.cons (Dat.dp r1) (.cons (Dat.dp r2) (.cons (Dat.dp r3) .nil)))
  lay p h := by
    rw [Bool.and_eq_true, Bool.and_eq_true] at h
    simp only [PyData.canLay0, PyData.canLayAll0, Dat.lay p.a h.1, Dat.lay p.b h.2.1, Dat.lay p.c h.2.2, Bool.and_self]
  dep := max (Dat.dep A) (max (Dat.dep B) (Dat.dep C)) + 1
  depth p := by
    have h1 := Dat.depth p.a
    have h2 := Dat.depth p.b
    have h3 := Dat.depth p.c
    simp only [PyData.depth, PyData.depthAll]
    omega
  dec p q := Dat.dec p.a q.a && (Dat.dec p.b q.b && Dat.dec p.c q.c)
  eqv p q := by simp only [PyData.eqv, PyData.eqvAll, Dat.eqv, Bool.and_true]
  iff p q := by
    rw [Bool.and_eq_true, Bool.and_eq_true, Dat.iff, Dat.iff, Dat.iff]
    constructor
    · rintro ⟨h1, h2, h3⟩; cases p; cases q; cases h1; cases h2; cases h3; rfl
    · intro h; rw [h]; exact ⟨rfl, rfl, rfl⟩
instance {A B C : Type} [Rp A] [Rp B] [Rp C] [Dat A] [Dat B] [Dat C] [DatT A] [DatT B] [DatT C] : DatT (T3 A B C) := ⟨fun p => by
  show (Dat.ok p.a && (Dat.ok p.b && Dat.ok p.c)) = true
  rw [DatT.ok p.a, DatT.ok p.b, DatT.ok p.c]; rfl⟩
/-! ### sorted -/
theorem perm_uniq {α : Type} {R : α → α → Prop} (as : ∀ a b, R a b → R b a → a = b) : ∀ {l m : List α}, l.Perm m → l.Pairwise R → m.Pairwise R → l = m
  | [], m, p, _, _ => p.nil_eq
  | a :: l, [], p, _, _ => absurd p.symm.nil_eq (by simp)
  | a :: l, b :: m, p, h1, h2 => by
    have e : a = b := by
      have ha := p.subset (List.mem_cons_self (a := a) (l := l))
      have hb := p.symm.subset (List.mem_cons_self (a := b) (l := m))
      rcases List.mem_cons.mp ha with z | z
      · exact z
      · rcases List.mem_cons.mp hb with y | y
        · exact y.symm
        · exact as a b ((List.pairwise_cons.mp h1).1 b y) ((List.pairwise_cons.mp h2).1 a z)
    subst e
    rw [perm_uniq as p.cons_inv (List.pairwise_cons.mp h1).2 (List.pairwise_cons.mp h2).2]
def sortI (xs : List Int) : List Int := xs.mergeSort fun a b => decide (a ≤ b)
theorem sortI_perm (xs : List Int) : (sortI xs).Perm xs := List.mergeSort_perm ..
theorem sortI_srt (xs : List Int) : (sortI xs).Pairwise (· ≤ ·) := (List.pairwise_mergeSort (le := fun a b : Int => decide (a ≤ b)) (fun a b c h1 h2 => by simp at *; omega) (fun a b => by simp; omega) xs).imp fun h => of_decide_eq_true h
theorem sortI_uniq {xs ys : List Int} (p : ys.Perm xs) (h : ys.Pairwise (· ≤ ·)) : ys = sortI xs := perm_uniq (fun a b h1 h2 => by omega) (p.trans (sortI_perm xs).symm) h (sortI_srt xs)
def lexLe (p q : Int × Int) : Bool := !SrtO.lexB q p
theorem lexLe_iff {p q : Int × Int} : lexLe p q = true ↔ p.1 < q.1 ∨ (p.1 = q.1 ∧ p.2 ≤ q.2) := by
  unfold lexLe
  rw [Bool.not_eq_true', SrtO.lexB_no]
  omega
def sortP (xs : List (Int × Int)) : List (Int × Int) := xs.mergeSort lexLe
theorem sortP_perm (xs : List (Int × Int)) : (sortP xs).Perm xs := List.mergeSort_perm ..
theorem sortP_srt (xs : List (Int × Int)) : (sortP xs).Pairwise fun a b => lexLe a b = true := List.pairwise_mergeSort (fun a b c h1 h2 => by rw [lexLe_iff] at *; omega) (fun a b => by rw [Bool.or_eq_true, lexLe_iff, lexLe_iff]; omega) xs
theorem sortP_uniq {xs ys : List (Int × Int)} (p : ys.Perm xs) (h : ys.Pairwise fun a b => lexLe a b = true) : ys = sortP xs := perm_uniq (fun a b h1 h2 => by rw [lexLe_iff] at h1 h2; exact Prod.ext (by omega) (by omega)) (p.trans (sortP_perm xs).symm) h (sortP_srt xs)
/-- the two ints of a pair that lies in a heap -/
def pairOf (h : Heap) (v : Value) : Int × Int := match v with
  | .ref a => match h.get? a with
    | some o => match o.data with
      | .seq xs _ => match xs.toList with
        | [.int x _, .int y _] => (x, y)
        | _ => (0, 0)
      | _ => (0, 0)
    | none => (0, 0)
  | _ => (0, 0)
def PairV (K : PySem.W.Frag) (H : Hp) (v : V) (p : Int × Int) : Prop := ∃ t, v = V.ref t ∧ SqT K H t [.int p.1, .int p.2]
def rSortedPT (K : PySem.W.Frag) : List V → Hp → VK → Prop := fun vs H Q => ∃ (a : Addr) (xs : List V) (ps : List (Int × Int)) (R : V → Int × Int → Prop), vs = [V.ref a] ∧ SqL K H a xs ∧ Paired R xs ps ∧ (∀ v p, R v p → PairV K H v p) ∧
  ∀ ys p, Paired R ys (sortP ps) → H p = none → Q (.ref p) (upd H p (.lst ys))
theorem pair_is {X : Cx} {pins : List (Addr × Obj)} {σ : St} {H : Hp} {s : Shared} (I : Inv X pins σ H s) {t : Addr} {p : Int × Int} (h : SqT X.K H t [.int p.1, .int p.2]) : pairOf s.heap (.ref t) = p ∧ Srt.IsPair s.heap (.ref t) p.1 p.2 := by
  obtain ⟨its, r, ⟨⟨cls, dd, data, sl⟩, ho, hc, n, hd⟩, _⟩ := I.tuple h
  simp only at hc hd
  subst hc hd
  obtain ⟨u1, u2, rfl, ri, rj⟩ := vals2 r
  obtain ⟨t1, rfl⟩ := ri
  obtain ⟨t2, rfl⟩ := rj
  refine ⟨?_, t, _, t1, t2, n, rfl, ho, rfl, rfl⟩
  unfold pairOf
  simp only [ho]
theorem cr_sortedPT {X : Cx} : CallR X (.builtin "sorted") (rSortedPT X.K) := by
  intro pins s σ H vs us Q I r h
  obtain ⟨a, xs, ps, R, rfl, hs, hx, hR, q⟩ := h
  obtain ⟨its, rv, hl, hz⟩ := I.list hs
  obtain ⟨u, rfl, ru⟩ := vals1 r
  obtain rfl : u = Value.ref a := ru
  have hx' : ∀ x ∈ xs, ∃ t, x = V.ref t := by
    clear q hs rv hz
    induction hx with
    | nil => intro x m; cases m
    | cons r _ ih =>
      intro x m
      rcases List.mem_cons.mp m with z | z
      · obtain ⟨t, e, _⟩ := hR _ _ r; exact ⟨t, z ▸ e⟩
      · exact ih x z
  obtain ⟨e1, e2⟩ := refs_back rv hx'
  -- the pairs, value by value
  have key : ∀ {xs : List V} {ps : List (Int × Int)} {us : List Value}, Paired R xs ps → xs = us.map backV → (∀ u ∈ us, ∃ a, u = Value.ref a) → us.map (pairOf s.heap) = ps ∧ ∀ u ∈ us, R (backV u) (pairOf s.heap u) ∧ Srt.IsPair s.heap u (pairOf s.heap u).1 (pairOf s.heap u).2 := by
    intro xs ps us h
    induction h generalizing us with
    | nil =>
      intro e _
      cases us with
      | nil => exact ⟨rfl, fun u m => by cases m⟩
      | cons _ _ => cases e
    | @cons x p xs ps r t ih =>
      intro e hu
      cases us with
      | nil => cases e
      | cons u us =>
        rw [List.map_cons] at e
        obtain ⟨ex, et⟩ := List.cons.inj e
        obtain ⟨k1, k2⟩ := ih et fun z m => hu z (List.mem_cons_of_mem _ m)
        obtain ⟨b, rfl⟩ := hu u List.mem_cons_self
        obtain ⟨t1, er, hq⟩ := hR _ _ r
        have eb : V.ref b = V.ref t1 := by rw [← er, ex]; rfl
        cases eb
        obtain ⟨j1, j2⟩ := pair_is I hq
        rw [ex] at r
        refine ⟨by rw [List.map_cons, j1, k1], fun z m => ?_⟩
        rcases List.mem_cons.mp m with z1 | z1
        · subst z1
          rw [j1]
          exact ⟨r, j2⟩
        · exact k2 z z1
  obtain ⟨k1, k2⟩ := key hx e1 e2
  refine SrtO.sorted_pairsO (k := pairOf s.heap) hl.isList (by rw [← rv.length]; exact hz) (fun v hv => (k2 v hv).2) fun h' d out h1 h2 kp hd hn => ?_
  have h3 : ∀ u ∈ out, ∃ a, u = Value.ref a := fun u hu => e2 u (h2.perm.mem_iff.mp hu)
  obtain ⟨n, hn⟩ := hn
  have hp : out.map (pairOf s.heap) = sortP ps := by
    refine sortP_uniq ?_ ?_
    · rw [← k1]; exact h2.perm.map _
    · refine List.pairwise_map.mpr (List.Pairwise.imp (fun {x y} z => ?_) h1)
      unfold lexLe
      show (!SrtO.lexB (pairOf s.heap y) (pairOf s.heap x)) = true
      have z' : SrtO.lexB (pairOf s.heap y) (pairOf s.heap x) = false := z
      rw [z']; rfl
  have hb : Paired R (out.map backV) (sortP ps) := by
    rw [← hp]
    have hall : ∀ u ∈ out, R (backV u) (pairOf s.heap u) := fun u hu => (k2 u (h2.perm.mem_iff.mp hu)).1
    clear hp h1 h2 h3 hn hd
    induction out with
    | nil => exact .nil
    | cons u r ih => exact .cons (hall u List.mem_cons_self) (ih fun z m => hall z (List.mem_cons_of_mem _ m))
  refine ⟨.ref d, upd H d (.lst (out.map backV)), I.laid (t' := s.toks) kp hd ⟨?_, out, n, vals_back h3, hn⟩, rfl, q _ d hb (I.hok.fresh hd)⟩
  rw [List.length_map, h2.perm.length_eq, ← rv.length]
  exact hz
section
variable {T : Type} [Rp T] {X : Cx} {W : WX} {g : Bool} {ρ : List Slot} {a b c e : Expr} {pos : Pos} {lv : Nat}
theorem e_lenset {p p2 q : Pos} {m : Res (List Int)} (C : CtxOk X W lv) (h : LG X W ρ a m) (hm : X.mg "len" = none) (hm2 : X.mg "set" = none) (hg : Gl X "len" := by rfl) (hg2 : Gl X "set" := by rfl) (na : starEach [a] X.env = (false, eval a X.env) :: starEach [] X.env := by rfl) :
    EG X W g ρ (.Call (.Name "len" p) [.Call (.Name "set" p2) [a] [] q] [] pos) (m.bind fun xs => guardR (decide (xs.length ≤ 4000)) (.ok ((nubI xs).length : Int))) := by
  obtain ⟨ta, pa, qa⟩ := h.ex
  refine ⟨_, pe_lenSetG hg hm hg2 hm2 pa C.calm na, fun S own σ H Q rs h => qa S own σ H _ rs (h.bind.imp (fun xs hx H1 l vs s r1 r2 => ?_) fun _ z => z)⟩
  obtain ⟨h1, hx⟩ := hx.guard
  have e := RpAll.int r2
  subst e
  exact ⟨l, xs, rfl, .inl (.inl r1), of_decide_eq_true h1, hx H1 _ s rfl⟩
theorem f_sortI {p : Pos} {ma : Res (List Int)} (ha : LG X W ρ a ma) (hm : X.mg "sorted" = none) (hg : Gl X "sorted" := by rfl)
    (he : starEach [a] X.env = (false, eval a X.env) :: starEach [] X.env := by rfl) (hpl : (backTo pos (starEach [] X.env)).any (·.1) = false := by rfl) : FG X W ρ (.Call (.Name "sorted" p) [a] [] pos) (ma.bind fun xs => .ok (sortI xs)) := by
  obtain ⟨ta, pa, qa⟩ := ha.ex
  refine ⟨_, pe_callB cr_sortedI hg hm (by decide +kernel) (pa_cons pa pa_nil he) (by decide) (by decide) he hpl, fun S own σ H Q rs h => lone_run (R' := fun v H2 => rSortedI X.K [v] H2 Q) qa rs h fun xs a vs H2 s r1 r2 hp => ?_⟩
  have e := RpAll.int r2
  subst e
  refine ⟨a, xs, rfl, .inl (.inl r1), fun ns' l p1 p2 nl => ?_⟩
  have e := sortI_uniq p1 p2
  subst e
  refine hp (upd H2 l (.lst ((sortI xs).map V.int))) l _ (s.trans (same_upd nl)) (s.free nl) upd_same ?_
  exact RpAll.of_int _
theorem f_sortP {p : Pos} {ma : Res (List (Int × Int))} (ha : LG X W ρ a ma) (hm : X.mg "sorted" = none) (hg : Gl X "sorted" := by rfl)
    (he : starEach [a] X.env = (false, eval a X.env) :: starEach [] X.env := by rfl) (hpl : (backTo pos (starEach [] X.env)).any (·.1) = false := by rfl) : FG X W ρ (.Call (.Name "sorted" p) [a] [] pos) (ma.bind fun xs => .ok (sortP xs)) := by
  obtain ⟨ta, pa, qa⟩ := ha.ex
  have up : ∀ {K : PySem.W.Frag} {B : List Addr} {H : Hp} {v : V} {x : Int × Int}, rp K (hide B H) v x → PairV K (hide B H) v x := fun {K B H v x} ⟨t, vs, e, h1, h2⟩ => by
    cases h2 with
    | cons r1 h2 =>
      cases h2 with
      | cons r2 h2 =>
        cases h2
        have r1' : _ = V.int x.1 := r1
        have r2' : _ = V.int x.2 := r2
        subst r1' r2'
        exact ⟨t, e, h1⟩
  have dn : ∀ {K : PySem.W.Frag} {H : Hp} {v : V} {x : Int × Int}, PairV K H v x → rp K H v x := fun {K H v x} ⟨t, e, h⟩ => ⟨t, _, e, h, .cons rfl (.cons rfl .nil)⟩
  refine ⟨_, pe_callB cr_sortedPT hg hm (by decide +kernel) (pa_cons pa pa_nil he) (by decide) (by decide) he hpl, fun S own σ H Q rs h => lone_run (R' := fun v H2 => rSortedPT X.K [v] H2 Q) qa rs h fun xs a vs H2 s r1 r2 hp => ?_⟩
  refine ⟨a, vs, xs, rp X.K (hide (S ++ own) H2), rfl, .inl (.inl r1), r2, fun v p r => ?_, fun ys l hy nl => ?_⟩
  · obtain ⟨t, e, h⟩ := up r
    exact ⟨t, e, SqT.same hide_sub h⟩
  · refine hp (upd H2 l (.lst ys)) l ys (s.trans (same_upd nl)) (s.free nl) upd_same ?_
    rw [hide_new nl ((rs.mono s).fresh nl)]
    exact hy
end
end Py

set_option Elab.async false
set_option linter.all false
set_option maxRecDepth 100000
set_option maxHeartbeats 1000000
/-! Py, part M: the plain side. -/
namespace Py
open PySem PySem.Spec L2
open Rp (rp)
/-- it answers, and so -/
abbrev Ok {α : Type} (m : Res α) (Q : α → Prop) : Prop := Post m Q fun _ => False
section
variable {α β γ S T U : Type} {E : Ex → Prop} {Q Q' : β → Prop}
theorem ok_eq {m : Res α} {x : α} (h : Ok m (· = x)) : m = .ok x := by
  cases m with
  | ok a => exact congrArg Res.ok h
  | err e => exact h.elim
  | bad => exact h.elim
theorem Ok.of {m : Res α} {x : α} (h : m = .ok x) : Ok m (· = x) := by subst h; exact rfl
theorem wp {m : Res α} {f : α → Res β} {P : α → Prop} (h : Post m P E) (k : ∀ a, P a → Post (f a) Q E) : Post (m.bind f) Q E := by
  cases m with
  | ok a => exact k a h
  | err e => exact h
  | bad => exact h
theorem wpe {m : Res α} {f : α → Res β} {a : α} (h : m = .ok a) (k : Post (f a) Q E) : Post (m.bind f) Q E := by subst h; exact k
theorem Post.mono {m : Res α} {P P' : α → Prop} (h : Post m P E) (k : ∀ a, P a → P' a) : Post m P' E := h.imp k fun _ z => z
theorem Post.lift {m : Res α} {P : α → Prop} (h : Ok m P) : Post m P E := h.imp (fun _ z => z) fun _ z => z.elim
theorem Post.and {m : Res α} {P P' : α → Prop} (h : Post m P E) (k : Post m P' E) : Post m (fun a => P a ∧ P' a) E := by
  cases m with
  | ok a => exact ⟨h, k⟩
  | err e => exact h
  | bad => exact h
/-- bind at an answer, not by rfl (simp's rfl steps cost the kernel) -/
theorem bok (a : α) (f : α → Res β) : (Res.ok a).bind f = f a := by
  have h : ∀ m : Res α, m = .ok a → m.bind f = f a := by intro m h; subst h; rfl
  exact h _ rfl
theorem guardR_ok {c : Bool} {m : Res α} (h : c = true) : guardR c m = m := by subst h; rfl
/-! numbers -/
theorem log2_lt {n k : Nat} (h : n < 2 ^ k) (hk : 0 < k) : n.log2 < k := by
  by_cases z : n = 0
  · subst z; simpa using hk
  · exact (Nat.log2_lt z).2 h
theorem mul_big {x y : Int} {a b : Nat} (hx : x.natAbs < 2 ^ a) (hy : y.natAbs < 2 ^ b) (h : a + b ≤ 1000000) : mulM x y = .ok (x * y) := by
  have c : mulOk x y = true := by
    unfold mulOk
    by_cases a0 : a = 0
    · subst a0
      have : x = 0 := by omega
      subst this
      rfl
    by_cases b0 : b = 0
    · subst b0
      have : y = 0 := by omega
      subst this
      simp
    have h1 := log2_lt hx (by omega)
    have h2 := log2_lt hy (by omega)
    have : x.natAbs.log2 + y.natAbs.log2 < 1000000 := by omega
    simp [this]
  exact guardR_ok c
theorem mul_l {x y : Int} (h : x.natAbs < 18446744073709551616) : mulM x y = .ok (x * y) := by
  have c : mulOk x y = true := by
    unfold mulOk
    have h1 : -(2 ^ 64) < x := by omega
    have h2 : x < 2 ^ 64 := by omega
    rw [decide_eq_true h1, decide_eq_true h2]; rfl
  exact guardR_ok c
theorem mul_r {x y : Int} (h : y.natAbs < 18446744073709551616) : mulM x y = .ok (x * y) := by
  have c : mulOk x y = true := by
    unfold mulOk
    have h1 : -(2 ^ 64) < y := by omega
    have h2 : y < 2 ^ 64 := by omega
    rw [decide_eq_true h1, decide_eq_true h2]
    cases (decide (-(2 ^ 64) < x) && decide (x < 2 ^ 64)) <;> rfl
  exact guardR_ok c
theorem mod_ok {x y : Int} (h : y ≠ 0) : modM x y = .ok (x.fmod y) := guardR_ok (decide_eq_true h)
theorem mod_pos {x y : Int} (h : 0 < y) : modM x y = .ok (x % y) := by rw [mod_ok (by omega), Int.fmod_eq_emod_of_nonneg _ (by omega)]
theorem div_ok {x y : Int} (h : y ≠ 0) {k : Nat} (h2 : y.natAbs < 2 ^ k) (hk : k ≤ 9000) : divM x y = .ok (x.fdiv y) := by
  have k0 : 0 < k := by
    cases k with
    | zero => omega
    | succ n => omega
  have h3 := log2_lt h2 k0
  exact guardR_ok (by unfold divOk; rw [decide_eq_true h, decide_eq_true (show y.natAbs.log2 < 9000 by omega)]; rfl)
theorem div_pos {x y : Int} (h : 0 < y) {k : Nat} (h2 : y.natAbs < 2 ^ k) (hk : k ≤ 9000) : divM x y = .ok (x / y) := by
  rw [div_ok (by omega) h2 hk, Int.fdiv_eq_ediv_of_nonneg _ (by omega)]
theorem div_s {x y : Int} (h : 0 < y) (h2 : y < 4294967296) : divM x y = .ok (x / y) := div_pos h (k := 32) (by omega) (by omega)
theorem pow_ok {x y : Int} (h : 0 ≤ y) (h2 : y ≤ 1000000) (h3 : x.natAbs < 18446744073709551616) : powM x y = .ok (x ^ y.toNat) :=
  guardR_ok (by rw [decide_eq_true h, decide_eq_true h2, decide_eq_true (show x.natAbs < 2 ^ 64 by omega)]; rfl)
theorem inRange_of {j : Int} (h : -4611686018427387904 ≤ j) (h2 : j < 4611686018427387904) : inRange j = true := by
  unfold inRange
  rw [decide_eq_true (show -(2 ^ 62) ≤ j by omega), decide_eq_true (show j < 2 ^ 62 by omega)]; rfl
theorem rng_mem {lo hi x : Int} (h : x ∈ rng lo hi) : lo ≤ x ∧ x < hi := by
  obtain ⟨i, hi', e⟩ := List.mem_map.mp h
  have := List.mem_range.mp hi'
  omega
/-! lists -/
theorem idx_ok {xs : List α} {i : Int} (h : 0 ≤ i) (h2 : i < xs.length) : idxM xs i = .ok (xs[i.toNat]'(by omega)) := by
  unfold idxM atI ixN
  rw [if_pos h, if_pos h2]
  show (match xs[i.toNat]? with | some x => Res.ok x | none => .bad) = _
  rw [List.getElem?_eq_getElem (by omega)]
theorem idx_all {xs : List α} {P : α → Prop} {i : Int} (h : 0 ≤ i) (h2 : i < xs.length) (k : ∀ x ∈ xs, P x) : Post (idxM xs i) P E := by
  rw [idx_ok h h2]
  exact k _ (List.getElem_mem _)
theorem idx_nat {xs : List α} {n : Nat} (h : n < xs.length) : idxM xs (n : Int) = .ok xs[n] := idx_ok (by omega) (by omega)
theorem apn_ok {xs : List α} {x : α} (h : xs.length < sizeLine) : appM xs x = .ok (xs ++ [x]) := guardR_ok (decide_eq_true h)
theorem cat_ok {xs ys : List α} (h : xs.length + ys.length ≤ sizeLine) : catM xs ys = .ok (xs ++ ys) := guardR_ok (decide_eq_true h)
theorem ipow2 {m n : Nat} (h : m ≤ n) : (2 : Int) ^ m ≤ 2 ^ n := by
  have z := Nat.pow_le_pow_right (n := 2) (by decide) h
  have e : ∀ k : Nat, (2 : Int) ^ k = ((2 ^ k : Nat) : Int) := fun k => by simp
  rw [e, e]; exact Int.ofNat_le.mpr z
theorem ipow10 {m n : Nat} (h : m ≤ n) : (10 : Int) ^ m ≤ 10 ^ n := by
  have z := Nat.pow_le_pow_right (n := 10) (by decide) h
  have e : ∀ k : Nat, (10 : Int) ^ k = ((10 ^ k : Nat) : Int) := fun k => by simp
  rw [e, e]; exact Int.ofNat_le.mpr z
theorem foldl_keep {P : α → Prop} {f : α → β → α} {xs : List β} {s : α} (h : P s) (k : ∀ s x, x ∈ xs → P s → P (f s x)) : P (xs.foldl f s) := by
  induction xs generalizing s with
  | nil => exact h
  | cons x r ih => exact ih (k s x (List.mem_cons_self ..) h) fun s y hy => k s y (List.mem_cons_of_mem _ hy)
/-! loops -/
theorem forR_wp {f : S → T → Res S} {I : List T → S → Prop} {xs : List T} {s : S} {done : List T} (h : I done s) (k : ∀ d x r s, done ++ xs = d ++ x :: r → I d s → Post (f s x) (fun s' => I (d ++ [x]) s') E) : Post (forR f xs s) (fun s' => I (done ++ xs) s') E := by
  induction xs generalizing s done with
  | nil => rw [List.append_nil]; exact h
  | cons x r ih =>
    refine wp (k done x r s rfl h) fun s' h' => ?_
    have z := ih (done := done ++ [x]) h' fun d y q s e => k d y q s (by rw [← e]; simp)
    rw [List.append_assoc] at z
    exact z
/-- a fold whose steps keep I -/
theorem forR_inv {f : S → T → Res S} {I : S → Prop} {xs : List T} {s : S} (h : I s) (k : ∀ x s, x ∈ xs → I s → Post (f s x) I E) : Post (forR f xs s) I E :=
  forR_wp (I := fun _ s => I s) (done := []) h fun d x r s e hs => k x s (by have e2 : xs = d ++ x :: r := e; rw [e2]; simp) hs
theorem forR_eq {f : S → T → Res S} {g : S → T → S} : ∀ {xs : List T} {s : S}, (∀ s x, x ∈ xs → f s x = .ok (g s x)) → forR f xs s = .ok (xs.foldl g s)
  | [], s, h => rfl
  | x :: r, s, h => by
    show (f s x).bind _ = _
    rw [h s x (List.mem_cons_self ..)]
    exact forR_eq fun s y hy => h s y (List.mem_cons_of_mem _ hy)
/-- a loop that only looks, and finds nothing to return -/
theorem forC_look {B R : Type} {f : Unit → T → Res (Ctl Unit Unit R)} {xs : List T} (h : ∀ x ∈ xs, f () x = .ok (.nx ())) : (forC f xs () : Res (Ctl Unit B R)) = .ok (.nx ()) := by
  induction xs with
  | nil => rfl
  | cons x r ih =>
    show (f () x).bind _ = _
    rw [h x (List.mem_cons_self ..)]
    exact ih fun y hy => h y (List.mem_cons_of_mem _ hy)
theorem lcM_ok {t : T → Res Bool} {f : T → Res U} {g : T → U} {xs : List T} (h : ∀ x ∈ xs, t x = .ok true) (h2 : ∀ x ∈ xs, f x = .ok (g x)) : lcM t f xs = .ok (xs.map g) := by
  induction xs with
  | nil => rfl
  | cons x r ih =>
    show (t x).quiet.bind _ = _
    rw [h x (List.mem_cons_self ..)]
    show (f x).quiet.bind _ = _
    rw [h2 x (List.mem_cons_self ..)]
    show (lcM t f r).bind _ = _
    rw [ih (fun y hy => h y (List.mem_cons_of_mem _ hy)) (fun y hy => h2 y (List.mem_cons_of_mem _ hy))]
    rfl
theorem lcX_ok {f : T → Res U} {g : T → U} {xs : List T} (hl : xs.length ≤ sizeLine) (h2 : ∀ x ∈ xs, f x = .ok (g x)) : lcX (fun _ => Res.ok true) f xs = .ok (xs.map g) := by
  unfold lcX
  rw [guardR_ok (decide_eq_true hl)]
  exact lcM_ok (fun _ _ => rfl) h2
end
/-! what the laws compare: data of few levels -/
def lenCap : Nat := 1000000
theorem lenCap_eq : lenCap = 1000000 := rfl
def Dsh : Nat → PyData → Prop
  | 0, _ => False
  | n + 1, .list xs => xs.length < lenCap ∧ ∀ x ∈ xs, Dsh n x
  | n + 1, .tuple xs => xs.length < lenCap ∧ ∀ x ∈ xs, Dsh n x
  | _ + 1, .none => True
  | _ + 1, .bool _ => True
  | _ + 1, .int _ => True
  | _ + 1, .str x => PySem.PyData.strOk x = true
  | _ + 1, _ => False
theorem dsh_list {T : Type} [Rp T] [Dat T] {n : Nat} {xs : List T} (h : xs.length < lenCap) (k : ∀ x ∈ xs, Dsh n (Dat.toD x)) : Dsh (n + 1) (Dat.toD xs) := by
  refine ⟨by rw [List.length_map]; exact h, fun d hd => ?_⟩
  obtain ⟨x, hx, rfl⟩ := List.mem_map.mp hd
  exact k x hx
theorem dsh_tup {T : Type} [Rp T] [Dat T] {n : Nat} {xs : Tup T} (h : xs.l.length < lenCap) (k : ∀ x ∈ xs.l, Dsh n (Dat.toD x)) : Dsh (n + 1) (Dat.toD xs) := by
  refine ⟨by rw [List.length_map]; exact h, fun d hd => ?_⟩
  obtain ⟨x, hx, rfl⟩ := List.mem_map.mp hd
  exact k x hx
theorem dsh_pair {A B : Type} [Rp A] [Rp B] [Dat A] [Dat B] {n : Nat} {p : A × B} (h1 : Dsh n (Dat.toD p.1)) (h2 : Dsh n (Dat.toD p.2)) : Dsh (n + 1) (Dat.toD p) := by
  refine ⟨by show 2 < lenCap; rw [lenCap_eq]; omega, fun d hd => ?_⟩
  rcases List.mem_cons.mp hd with rfl | hd
  · exact h1
  · rcases List.mem_cons.mp hd with rfl | hd
    · exact h2
    · cases hd
theorem eqvD_int (i : Int) : eqvD ⟨.int i⟩ ⟨.int i⟩ = .ok true := by
  unfold eqvD
  have h : SeqAt.shaped (.int i) = true := dat_shaped (T := Int) (by decide) i rfl
  rw [guardR_ok (by rw [show SeqAt.shaped (PD.mk (.int i)).d = true from h]; rfl)]
  show Res.ok (PyData.eqv (.int i) (.int i)) = _
  rw [show PyData.eqv (.int i) (.int i) = Dat.dec i i from Dat.eqv i i, (Dat.iff i i).mpr rfl]
theorem eqvD_str {i : Str} (h0 : PySem.PyData.strOk i = true) : eqvD ⟨.str i⟩ ⟨.str i⟩ = .ok true := by
  unfold eqvD
  have h : SeqAt.shaped (.str i) = true := dat_shaped (T := Str) (by decide) i h0
  rw [guardR_ok (by rw [show SeqAt.shaped (PD.mk (.str i)).d = true from h]; rfl)]
  show Res.ok (PyData.eqv (.str i) (.str i)) = _
  rw [show PyData.eqv (.str i) (.str i) = Dat.dec i i from Dat.eqv i i, (Dat.iff i i).mpr rfl]
theorem idxD_list {xs : List PyData} {i : Int} (h : 0 ≤ i) (h2 : i < xs.length) : idxD ⟨.list xs⟩ i = .ok ⟨xs[i.toNat]'(by omega)⟩ := by
  show (idxM xs i).bind _ = _
  rw [idx_ok h h2]; rfl
theorem idxD_tup {xs : List PyData} {i : Int} (h : 0 ≤ i) (h2 : i < xs.length) : idxD ⟨.tuple xs⟩ i = .ok ⟨xs[i.toNat]'(by omega)⟩ := by
  show (idxM xs i).bind _ = _
  rw [idx_ok h h2]; rfl
end Py

set_option Elab.async false
set_option linter.all false
set_option maxRecDepth 100000
set_option maxHeartbeats 1000000
/-! Py, part N: the plain side, further. -/
namespace Py
open PySem PySem.Spec L2
section
variable {α β γ S T U B R : Type} {E : Ex → Prop}
/-! places -/
def at0 {α : Type} [Inhabited α] (xs : List α) (i : Int) : α := xs.getD i.toNat default
theorem idx0 [Inhabited α] {xs : List α} {i : Int} (h : 0 ≤ i) (h2 : i < xs.length) : idxM xs i = .ok (at0 xs i) := by
  rw [idx_ok h h2]
  unfold at0
  rw [List.getD_eq_getElem?_getD, List.getElem?_eq_getElem (by omega)]
  rfl
theorem at0_mem [Inhabited α] {xs : List α} {i : Int} (h : 0 ≤ i) (h2 : i < xs.length) : at0 xs i ∈ xs := by
  unfold at0
  rw [List.getD_eq_getElem?_getD, List.getElem?_eq_getElem (by omega)]
  exact List.getElem_mem _
theorem at0_all [Inhabited α] {P : α → Prop} {xs : List α} (h : ∀ x ∈ xs, P x) (hd : P default) (i : Int) : P (at0 xs i) := by
  unfold at0
  rw [List.getD_eq_getElem?_getD]
  by_cases hi : i.toNat < xs.length
  · rw [List.getElem?_eq_getElem hi]
    exact h _ (List.getElem_mem _)
  · rw [List.getElem?_eq_none (by omega)]
    exact hd
theorem at0_nat [Inhabited α] {xs : List α} {n : Nat} (h : n < xs.length) : at0 xs (n : Int) = xs[n] := by
  unfold at0
  rw [List.getD_eq_getElem?_getD, Int.toNat_natCast, List.getElem?_eq_getElem h]
  rfl
theorem setM_ok {xs : List α} {i : Int} {x : α} (h : 0 ≤ i) (h2 : i < xs.length) : setM xs i x = .ok (xs.set i.toNat x) := by
  unfold setM ixN
  rw [if_pos h, if_pos h2]
theorem rng_len (n : Nat) : (rng 0 (n : Int)).length = n := by rw [rng_length]; omega
theorem rng_at {n i : Nat} (h : i < (rng 0 (n : Int)).length) : (rng 0 (n : Int))[i] = (i : Int) := by
  have := rng_get (List.getElem?_eq_getElem h)
  omega
theorem rng_nat {n : Int} (h : 0 ≤ n) : rng 0 n = rng 0 (n.toNat : Int) := by rw [Int.toNat_of_nonneg h]
/-- a walk by places is a walk -/
theorem rng_map [Inhabited α] (xs : List α) (f : α → β) : (rng 0 (xs.length : Int)).map (fun i => f (at0 xs i)) = xs.map f := by
  apply List.ext_getElem
  · rw [List.length_map, List.length_map, rng_len]
  · intro i h1 h2
    rw [List.getElem_map, List.getElem_map, rng_at, at0_nat (by rw [List.length_map] at h2; exact h2)]
theorem rng_zip [Inhabited α] [Inhabited β] (xs : List α) (ys : List β) (h : xs.length ≤ ys.length) (f : α → β → γ) : (rng 0 (xs.length : Int)).map (fun i => f (at0 xs i) (at0 ys i)) = (xs.zip ys).map fun v => f v.1 v.2 := by
  apply List.ext_getElem
  · rw [List.length_map, List.length_map, rng_len, List.length_zip]; omega
  · intro i h1 h2
    rw [List.length_map, List.length_zip] at h2
    rw [List.getElem_map, List.getElem_map, rng_at, at0_nat (by omega), at0_nat (by omega), List.getElem_zip]
/-! loops -/
theorem lcM_fil {t : T → Res Bool} {f : T → Res U} {p : T → Bool} {g : T → U} {xs : List T} (h : ∀ x ∈ xs, t x = .ok (p x)) (h2 : ∀ x ∈ xs, f x = .ok (g x)) : lcM t f xs = .ok ((xs.filter p).map g) := by
  induction xs with
  | nil => rfl
  | cons x r ih =>
    have ih := ih (fun y hy => h y (List.mem_cons_of_mem _ hy)) (fun y hy => h2 y (List.mem_cons_of_mem _ hy))
    show (t x).quiet.bind _ = _
    rw [h x (List.mem_cons_self ..)]
    show (if p x then (f x).quiet.bind _ else _) = _
    cases hp : p x with
    | true =>
      rw [if_pos rfl, h2 x (List.mem_cons_self ..), List.filter_cons, if_pos hp]
      show (lcM t f r).bind _ = _
      rw [ih]; rfl
    | false => rw [if_neg (by simp), ih, List.filter_cons, if_neg (by simp [hp])]
theorem lcX_fil {t : T → Res Bool} {f : T → Res U} {p : T → Bool} {g : T → U} {xs : List T} (hl : xs.length ≤ sizeLine) (h : ∀ x ∈ xs, t x = .ok (p x)) (h2 : ∀ x ∈ xs, f x = .ok (g x)) : lcX t f xs = .ok ((xs.filter p).map g) := by
  unfold lcX
  rw [guardR_ok (decide_eq_true hl)]
  exact lcM_fil h h2
theorem lcX_id {t : T → Res Bool} {p : T → Bool} {xs : List T} (hl : xs.length ≤ sizeLine) (h : ∀ x ∈ xs, t x = .ok (p x)) : lcX t (fun x => Res.ok x) xs = .ok (xs.filter p) := by
  rw [lcX_fil (g := fun x => x) hl h fun _ _ => rfl, List.map_id']
theorem lcX_all {f : T → Res U} {P : U → Prop} {xs : List T} (hl : xs.length ≤ sizeLine) (h : ∀ x ∈ xs, Ok (f x) P) : Ok (lcX (fun _ => Res.ok true) f xs) fun ys => ys.length = xs.length ∧ ∀ y ∈ ys, P y := by
  unfold lcX
  rw [guardR_ok (decide_eq_true hl)]
  clear hl
  induction xs with
  | nil => exact ⟨rfl, fun _ h => nomatch h⟩
  | cons x r ih =>
    show Post ((Res.ok true).quiet.bind _) _ _
    show Post ((f x).quiet.bind _) _ _
    have hx := h x (List.mem_cons_self ..)
    cases e : f x with
    | err z => rw [e] at hx; exact hx.elim
    | bad => rw [e] at hx; exact hx.elim
    | ok y =>
      rw [e] at hx
      show Post ((lcM _ f r).bind _) _ _
      refine wp (ih fun y hy => h y (List.mem_cons_of_mem _ hy)) fun ys hys => ⟨by simp [hys.1], fun z hz => ?_⟩
      rcases List.mem_cons.mp hz with rfl | hz
      · exact hx
      · exact hys.2 z hz
theorem forC_ret {f : S → T → Res (Ctl S S R)} {p : T → Bool} {g : S → T → S} {v : R} {xs : List T} : ∀ {s : S}, (∀ s, ∀ x ∈ xs, f s x = .ok (if p x then .rt v else .nx (g s x))) → (forC f xs s : Res (Ctl S B R)) = .ok (if xs.any p then .rt v else .nx (xs.foldl g s)) := by
  induction xs with
  | nil => intro s _; rfl
  | cons x r ih =>
    intro s h
    show (f s x).bind _ = _
    rw [h s x (List.mem_cons_self ..), List.any_cons, List.foldl_cons]
    cases p x with
    | true => rfl
    | false =>
      show forC f r (g s x) = _
      rw [ih fun s y hy => h s y (List.mem_cons_of_mem _ hy)]
      rfl
theorem forC_inv {f : S → T → Res (Ctl S S R)} {I : S → Prop} {xs : List T} {s : S} (h0 : I s) (h : ∀ s, I s → ∀ x ∈ xs, Ok (f s x) fun c => ∃ s', c = .nx s' ∧ I s') : Ok (forC f xs s : Res (Ctl S B R)) fun c => ∃ s', c = .nx s' ∧ I s' := by
  induction xs generalizing s with
  | nil => exact ⟨s, rfl, h0⟩
  | cons x r ih =>
    show Post ((f s x).bind _) _ _
    refine wp (h s h0 x (List.mem_cons_self ..)) fun c hc => ?_
    obtain ⟨s', rfl, hs⟩ := hc
    exact ih hs fun s hs y hy => h s hs y (List.mem_cons_of_mem _ hy)
theorem liftC_ok (v : R) : (liftC (.ok (.rt v)) : Res (Ctl S B R)) = .ok (.rt v) := rfl
theorem thenR_nx (s : S) (k : S → Res R) : thenR (.ok (.nx s)) k = k s := rfl
theorem thenR_rt (v : R) (k : S → Res R) : thenR (.ok (.rt v)) k = .ok v := rfl
theorem thenR_if (c : Bool) (v : R) (s : S) (k : S → Res R) : thenR (.ok (if c then .rt v else .nx s)) k = if c then .ok v else k s := by cases c <;> rfl
theorem thenC_nx {S₁ : Type} (s : S) (k : S → Res (Ctl S₁ B R)) : thenC (.ok (.nx s)) k = k s := rfl
theorem thenC_if {S₁ : Type} (c : Bool) (v : R) (s : S) (k : S → Res (Ctl S₁ B R)) : thenC (.ok (if c then .rt v else .nx s)) k = if c then .ok (.rt v) else k s := by cases c <;> rfl
theorem thenR_wp {m : Res (Ctl S Empty R)} {k : S → Res R} {P : S → Prop} {Q : R → Prop} (h : Ok m fun c => ∃ s, c = .nx s ∧ P s) (hk : ∀ s, P s → Ok (k s) Q) : Ok (thenR m k) Q := by
  cases m with
  | ok c => obtain ⟨s, rfl, hs⟩ := h; exact hk s hs
  | err e => exact h.elim
  | bad => exact h.elim
theorem thenC_wp {S₁ : Type} {m : Res (Ctl S B R)} {k : S → Res (Ctl S₁ B R)} {P : S → Prop} {Q : Ctl S₁ B R → Prop} (h : Ok m fun c => ∃ s, c = .nx s ∧ P s) (hk : ∀ s, P s → Ok (k s) Q) : Ok (thenC m k) Q := by
  cases m with
  | ok c => obtain ⟨s, rfl, hs⟩ := h; exact hk s hs
  | err e => exact h.elim
  | bad => exact h.elim
/-! slices -/
theorem cut_to {xs : List α} {i : Int} (h : 0 ≤ i) (h2 : i ≤ xs.length) : cut xs none (some i) = xs.take i.toNat := by
  obtain ⟨n, rfl⟩ := Int.eq_ofNat_of_zero_le h
  unfold cut
  rw [HT.sIx_nat, HT.sIx_none, List.drop_zero, Nat.sub_zero, Nat.min_eq_left (by omega), Int.toNat_natCast]
theorem cut_from {xs : List α} {i : Int} (h : 0 ≤ i) (h2 : i ≤ xs.length) : cut xs (some i) none = xs.drop i.toNat := by
  obtain ⟨n, rfl⟩ := Int.eq_ofNat_of_zero_le h
  unfold cut
  rw [HT.sIx_nat, HT.sIx_none, Nat.min_eq_left (by omega)]
  exact List.take_of_length_le (by rw [List.length_drop]; exact Nat.le_refl _)
theorem cut_mid {xs : List α} {i j : Int} (h : 0 ≤ i) (h1 : i ≤ j) (h2 : j ≤ xs.length) : cut xs (some i) (some j) = (xs.drop i.toNat).take (j - i).toNat := by
  obtain ⟨n, rfl⟩ := Int.eq_ofNat_of_zero_le h
  obtain ⟨m, rfl⟩ := Int.eq_ofNat_of_zero_le (show 0 ≤ j by omega)
  unfold cut
  rw [HT.sIx_nat, HT.sIx_nat, Nat.min_eq_left (by omega), Nat.min_eq_left (by omega)]
  congr 1
  omega
theorem cut_sub {xs : List α} {a b : Option Int} {x : α} (h : x ∈ cut xs a b) : x ∈ xs := List.mem_of_mem_drop (List.mem_of_mem_take h)
theorem cut_len {xs : List α} {a b : Option Int} : (cut xs a b).length ≤ xs.length := by
  unfold cut
  rw [List.length_take, List.length_drop]
  omega
end
end Py

set_option Elab.async false
set_option linter.all false
set_option maxRecDepth 100000
set_option maxHeartbeats 4000000
namespace Lw
open PySem PySem.Spec L2 Py
def topS (i : Nat) : Stmt := PySem.Challenge.pw_judgesandtrees_k07_least_scale_or_ring.main.body.getD i (.Pass ⟨0, 0, 0, 0⟩)
/-- what the top leaves -/
structure Fx (P : Program) (K : PySem.W.Frag) (mg : Str → Option Value) : Prop where
  d__round : ∃ fd, FunD K "_round" "_round" (defArgs (topS 3)) (defBody (topS 3)) (defScope (topS 3)) [] [] (He.ga K "_round") fd
  g__round : mg "_round" = some (.ref (He.ga K "_round"))
  d__ring : ∃ fd, FunD K "_ring" "_ring" (defArgs (topS 4)) (defBody (topS 4)) (defScope (topS 4)) [] [] (He.ga K "_ring") fd
  g__ring : mg "_ring" = some (.ref (He.ga K "_ring"))
  d_least_scale : ∃ fd, FunD K "least_scale" "least_scale" (defArgs (topS 1)) (defBody (topS 1)) (defScope (topS 1)) [] [] (He.ga K "least_scale") fd
  g_least_scale : mg "least_scale" = some (.ref (He.ga K "least_scale"))
  d_is_ring : ∃ fd, FunD K "is_ring" "is_ring" (defArgs (topS 2)) (defBody (topS 2)) (defScope (topS 2)) [] [] (He.ga K "is_ring") fd
  g_is_ring : mg "is_ring" = some (.ref (He.ga K "is_ring"))
  d__law_is_whole : ∃ fd, FunD K "_law_is_whole" "_law_is_whole" (defArgs (topS 6)) (defBody (topS 6)) (defScope (topS 6)) [] [] (He.ga K "_law_is_whole") fd
  g__law_is_whole : mg "_law_is_whole" = some (.ref (He.ga K "_law_is_whole"))
  d__law_cell : ∃ fd, FunD K "_law_cell" "_law_cell" (defArgs (topS 7)) (defBody (topS 7)) (defScope (topS 7)) [] [] (He.ga K "_law_cell") fd
  g__law_cell : mg "_law_cell" = some (.ref (He.ga K "_law_cell"))
  d__law_many : ∃ fd, FunD K "_law_many" "_law_many" (defArgs (topS 8)) (defBody (topS 8)) (defScope (topS 8)) [] [] (He.ga K "_law_many") fd
  g__law_many : mg "_law_many" = some (.ref (He.ga K "_law_many"))
  d__law_whole_list : ∃ fd, FunD K "_law_whole_list" "_law_whole_list" (defArgs (topS 9)) (defBody (topS 9)) (defScope (topS 9)) [] [] (He.ga K "_law_whole_list") fd
  g__law_whole_list : mg "_law_whole_list" = some (.ref (He.ga K "_law_whole_list"))
  d__law_longest : ∃ fd, FunD K "_law_longest" "_law_longest" (defArgs (topS 10)) (defBody (topS 10)) (defScope (topS 10)) [] [] (He.ga K "_law_longest") fd
  g__law_longest : mg "_law_longest" = some (.ref (He.ga K "_law_longest"))
  d__law_ring : ∃ fd, FunD K "_law_ring" "_law_ring" (defArgs (topS 11)) (defBody (topS 11)) (defScope (topS 11)) [] [] (He.ga K "_law_ring") fd
  g__law_ring : mg "_law_ring" = some (.ref (He.ga K "_law_ring"))
  d__law_judged : ∃ fd, FunD K "_law_judged" "_law_judged" (defArgs (topS 12)) (defBody (topS 12)) (defScope (topS 12)) [] [] (He.ga K "_law_judged") fd
  g__law_judged : mg "_law_judged" = some (.ref (He.ga K "_law_judged"))
  d__law_says : ∃ fd, FunD K "_law_says" "_law_says" (defArgs (topS 13)) (defBody (topS 13)) (defScope (topS 13)) [] [] (He.ga K "_law_says") fd
  g__law_says : mg "_law_says" = some (.ref (He.ga K "_law_says"))
  d__law_drawn_rings : ∃ fd, FunD K "_law_drawn_rings" "_law_drawn_rings" (defArgs (topS 14)) (defBody (topS 14)) (defScope (topS 14)) [] [] (He.ga K "_law_drawn_rings") fd
  g__law_drawn_rings : mg "_law_drawn_rings" = some (.ref (He.ga K "_law_drawn_rings"))
  d__law_bounds : ∃ fd, FunD K "_law_bounds" "_law_bounds" (defArgs (topS 15)) (defBody (topS 15)) (defScope (topS 15)) [] [] (He.ga K "_law_bounds") fd
  g__law_bounds : mg "_law_bounds" = some (.ref (He.ga K "_law_bounds"))
  d_law : ∃ fd, FunD K "law" "law" (defArgs (topS 16)) (defBody (topS 16)) (defScope (topS 16)) [] [] (He.ga K "law") fd
  g_law : mg "law" = some (.ref (He.ga K "law"))
  n_abs : mg "abs" = none
  n_all : mg "all" = none
  n_bool : mg "bool" = none
  n_enumerate : mg "enumerate" = none
  n_int : mg "int" = none
  n_isinstance : mg "isinstance" = none
  n_len : mg "len" = none
  n_list : mg "list" = none
  n_range : mg "range" = none
  n_set : mg "set" = none
  n_sorted : mg "sorted" = none
  n_sum : mg "sum" = none
  n_tuple : mg "tuple" = none
def m__round (numbers : List Int) (marks : List (Option Int)) (bounds : List (T3 Int Int Int)) : Res ((Option Int) × (List Int) × (List (Option Int))) :=
  (Res.bind (Res.ok (none : Option Int)) fun changed1 => (Res.bind (Res.bind (Res.ok (enumL bounds)) fun z20 => forR (fun (r2 : (List Int) × (List (Option Int)) × (Option Int)) v3 => (Res.bind (Res.ok v3.2) fun p4 => (Res.bind (Res.bind (Res.bind (idxM r2.1 p4.a) fun x7 => Res.bind (Res.bind (idxM r2.1 p4.b) fun x5 => Res.bind (Res.ok p4.c) fun y6 => Res.ok (x5 + y6)) fun y8 => Res.ok (decide (x7 < y8))) fun k19 => if k19 then (Res.bind (Res.bind (Res.bind (idxM r2.1 p4.b) fun x10 => Res.bind (Res.ok p4.c) fun y11 => Res.ok (x10 + y11)) fun a13 => Res.bind (Res.ok p4.a) fun b14 => setM r2.1 b14 a13) fun numbers12 => (Res.bind (Res.bind (Res.ok (some v3.1)) fun a16 => Res.bind (Res.ok p4.a) fun b17 => setM r2.2.1 b17 a16) fun marks15 => (Res.bind (Res.ok (some p4.a)) fun changed18 => (Res.ok (numbers12, marks15, changed18))))) else (Res.ok (r2.1, r2.2.1, r2.2.2))) fun r9 => (Res.ok (r9.1, r9.2.1, r9.2.2))))) z20 (numbers, marks, changed1)) fun r2 => (Res.ok (r2.2.2, r2.1, r2.2.1))))
abbrev s__round : Stmt := topS 3
theorem sc__round : FnScope ["numbers", "marks", "bounds", "changed", "place", "bound", "upper", "lower", "gap"] ["numbers", "marks", "bounds"] (defScope s__round) := ⟨rfl, rfl, rfl, by decide +kernel, rfl, by decide +kernel, by decide +kernel⟩
theorem ok__round {P : Program} {w : World} {K : PySem.W.Frag} {mg : Str → Option Value} {base : Heap} (G : Fx P K mg) : FOk P w K mg base "_round" 1 (spM2 K (asC (T := (List (T3 Int Int Int))) asN) (fun u : (List Int) × (List (Option Int)) × ((List (T3 Int Int Int)) × Unit) => m__round u.1 u.2.1 u.2.2.1)) := by
  obtain ⟨fd, F⟩ := G.d__round
  refine fok_m2 (ρ0 := fun ad0 ad1 u => [.own Int (some ad0) u.1, .own (Option Int) (some ad1) u.2.1, .val (List (T3 Int Int Int)) u.2.2.1, .non, .non, .non, .non, .non, .non]) (sl := fun ad0 ad1 y => [.own Int (some ad0) y.1, .own (Option Int) (some ad1) y.2, .non, .non, .non, .non, .non, .non, .non]) F G.g__round sc__round (F.bindsN (ps := ["numbers", "marks", "bounds"]) fun _ _ _ _ _ _ us hl => match us, hl with | [_, _, _], _ => rfl) (by intro _; rfl) (by intros; rfl) (by intros; exact ⟨_, rfl⟩) fun cdv A outer s H E C => ?_
  rintro ad0 ad1 ⟨numbers, marks, bounds, ⟨⟩⟩
  show SR _ _ none [.own Int (some ad0) numbers, .own (Option Int) (some ad1) marks, .val (List (T3 Int Int Int)) bounds, .non, .non, .non, .non, .non, .non] _ (retM (Option Int) (fun y => [.own Int (some ad0) y.1, .own (Option Int) (some ad1) y.2, .non, .non, .non, .non, .non, .non, .non])) (m__round numbers marks bounds)
  unfold m__round
  exact (r_cons (n_set 3 (n3 := fun changed1 => [.own Int (some ad0) numbers, .own (Option Int) (some ad1) marks, .val (List (T3 Int Int Int)) bounds, .val (Option Int) changed1, .non, .non, .non, .non, .non]) C.nd (e_upp up_none e_none)) fun changed1 => (r_cons (n_for (ρl := fun (r2 : (List Int) × (List (Option Int)) × (Option Int)) => [.own Int (some ad0) r2.1, .own (Option Int) (some ad1) r2.2.1, .val (List (T3 Int Int Int)) bounds, .val (Option Int) r2.2.2, .non, .non, .non, .non, .non]) (s0 := (numbers, marks, changed1)) C (i_enump (e_var 2) G.n_enumerate) (g_pair C.calm (g_name 4 C.nd) (g_name 5 C.nd)) (.s (.s (.s (.s (.n (.n (.n (.n (.n .nil))))))))) (fun r2 v3 => b_at [.own Int (some ad0) r2.1, .own (Option Int) (some ad1) r2.2.1, .val (List (T3 Int Int Int)) bounds, .val (Option Int) r2.2.2, .val Int v3.1, .val (T3 Int Int Int) v3.2, .non, .non, .non] (b_cons (n_unp (n3 := fun p4 => [.own Int (some ad0) r2.1, .own (Option Int) (some ad1) r2.2.1, .val (List (T3 Int Int Int)) bounds, .val (Option Int) r2.2.2, .val Int v3.1, .val (T3 Int Int Int) v3.2, .val Int p4.a, .val Int p4.b, .val Int p4.c]) (e_var 5) (g_three C.calm (g_name 6 C.nd) (g_name 7 C.nd) (g_name 8 C.nd))) fun p4 => (b_cons (n_if (n := fun (r9 : (List Int) × (List (Option Int)) × (Option Int)) => [.own Int (some ad0) r9.1, .own (Option Int) (some ad1) r9.2.1, .val (List (T3 Int Int Int)) bounds, .val (Option Int) r9.2.2, .val Int v3.1, .val (T3 Int Int Int) v3.2, .val Int p4.a, .val Int p4.b, .val Int p4.c]) (CJ.t (e_lt (e_ixp (l_own 0) (e_var 6)) (e_add (e_ixp (l_own 0) (e_var 7)) (e_var 8)))) (b_cons (n_setix 0 (n3 := fun numbers12 => [.own Int (some ad0) numbers12, .own (Option Int) (some ad1) r2.2.1, .val (List (T3 Int Int Int)) bounds, .val (Option Int) r2.2.2, .val Int v3.1, .val (T3 Int Int Int) v3.2, .val Int p4.a, .val Int p4.b, .val Int p4.c]) (e_add (e_ixp (l_own 0) (e_var 7)) (e_var 8)) (e_var 6)) fun numbers12 => (b_cons (n_setix 1 (n3 := fun marks15 => [.own Int (some ad0) numbers12, .own (Option Int) (some ad1) marks15, .val (List (T3 Int Int Int)) bounds, .val (Option Int) r2.2.2, .val Int v3.1, .val (T3 Int Int Int) v3.2, .val Int p4.a, .val Int p4.b, .val Int p4.c]) (e_upp up_some (e_var 4)) (e_var 6)) fun marks15 => (b_cons (n_set 3 (n3 := fun changed18 => [.own Int (some ad0) numbers12, .own (Option Int) (some ad1) marks15, .val (List (T3 Int Int Int)) bounds, .val (Option Int) changed18, .val Int v3.1, .val (T3 Int Int Int) v3.2, .val Int p4.a, .val Int p4.b, .val Int p4.c]) C.nd (e_upp up_some (e_var 6))) fun changed18 => (b_nil (.s (.s (.s (.s (.s (.s (.s (.s (.s .nil))))))))))))) (b_nil (.s (.s (.s (.s (.s (.s (.s (.s (.s .nil))))))))))) fun r9 => (b_nil (.s (.s (.s (.s (.n (.n (.n (.n (.n .nil)))))))))))))) fun r2 => (r_retMp (r2.1, r2.2.1) (e_var 3) (.s (.s (.n (.n (.n (.n (.n (.n (.n .nil))))))))))))
def m__ring (marks : List (Option Int)) (bounds : List (T3 Int Int Int)) (start : Int) : Res (List Int) :=
  (Res.bind (Res.ok ([] : List Int)) fun seen1 => (Res.bind (Res.ok start) fun at'2 => (Res.bind (whileM (fun (r3 : (List Int) × Int) => (Res.bind (Res.ok r3.2) fun x4 => Res.bind (Res.ok r3.1) fun y5 => Res.ok (!decide (x4 ∈ y5)))) (fun (r3 : (List Int) × Int) => (Res.bind (Res.bind (Res.ok r3.2) fun y7 => appM r3.1 y7) fun seen6 => (Res.bind (Res.bind (Res.bind (Res.ok bounds) fun x9 => Res.bind (Res.bind (idxM marks r3.2) getO) fun y10 => idxM x9 y10) fun x11 => Res.ok x11.b) fun at'8 => (Res.ok (seen6, at'8))))) (100) (seen1, at'2)) fun r3 => (Res.bind (Res.bind (Res.ok r3.1) fun x15 => Res.bind (Res.bind (Res.bind (Res.ok r3.1) fun x12 => Res.bind (Res.ok r3.2) fun y13 => indexM x12 y13) fun x14 => Res.ok (some x14)) fun y16 => Res.bind (Res.ok none) fun z17 => Res.ok (cut x15 y16 z17)) fun z20 => lcX (fun _ => Res.ok true) (fun unknown19 => (Res.bind (idxM marks unknown19) getO)) z20))))
abbrev s__ring : Stmt := topS 4
theorem sc__ring : FnScope ["marks", "bounds", "start", "seen", "at", "unknown"] ["marks", "bounds", "start"] (defScope s__ring) := ⟨rfl, rfl, rfl, by decide +kernel, rfl, by decide +kernel, by decide +kernel⟩
theorem ok__ring {P : Program} {w : World} {K : PySem.W.Frag} {mg : Str → Option Value} {base : Heap} (G : Fx P K mg) : FOk P w K mg base "_ring" 1 (spFr K (asC (T := (List (Option Int))) (asC (T := (List (T3 Int Int Int))) (asC (T := Int) asN))) (fun u : (List (Option Int)) × (List (T3 Int Int Int)) × Int × Unit => m__ring u.1 u.2.1 u.2.2.1)) := by
  obtain ⟨fd, F⟩ := G.d__ring
  refine fok_fr (ρ0 := fun u : (List (Option Int)) × (List (T3 Int Int Int)) × Int × Unit => [.val (List (Option Int)) u.1, .val (List (T3 Int Int Int)) u.2.1, .val Int u.2.2.1, .non, .non, .non]) F G.g__ring sc__ring (F.bindsN (ps := ["marks", "bounds", "start"]) fun _ _ _ _ _ _ us hl => match us, hl with | [_, _, _], _ => rfl) (by intro _; rfl) (by intro _; rfl) fun cdv A outer s H E C => ?_
  rintro ⟨marks, bounds, start, ⟨⟩⟩
  show SR _ _ none [.val (List (Option Int)) marks, .val (List (T3 Int Int Int)) bounds, .val Int start, .non, .non, .non] _ (retF Int) (m__ring marks bounds start)
  unfold m__ring
  exact (r_cons (n_setF 3 (n3 := fun seen1 => [.val (List (Option Int)) marks, .val (List (T3 Int Int Int)) bounds, .val Int start, .own Int none seen1, .non, .non]) C.nd (f_list (mk := (fun _ => ([] : List Int))) a_nil)) fun seen1 => (r_cons (n_set 4 (n3 := fun at'2 => [.val (List (Option Int)) marks, .val (List (T3 Int Int Int)) bounds, .val Int start, .own Int none seen1, .val Int at'2, .non]) C.nd (e_var 2)) fun at'2 => (r_cons (n_while (ρl := fun (r3 : (List Int) × Int) => [.val (List (Option Int)) marks, .val (List (T3 Int Int Int)) bounds, .val Int start, .own Int none r3.1, .val Int r3.2, .non]) (s0 := (seen1, at'2)) (100) C (fun r3 => t_at [.val (List (Option Int)) marks, .val (List (T3 Int Int Int)) bounds, .val Int start, .own Int none r3.1, .val Int r3.2, .non] (CJ.t (e_ninl (e_var 4) (e_own 3)))) (.s (.s (.s (.s (.s (.n .nil)))))) (fun r3 => b_at [.val (List (Option Int)) marks, .val (List (T3 Int Int Int)) bounds, .val Int start, .own Int none r3.1, .val Int r3.2, .non] (b_cons (n_app 3 (n3 := fun seen6 => [.val (List (Option Int)) marks, .val (List (T3 Int Int Int)) bounds, .val Int start, .own Int none seen6, .val Int r3.2, .non]) (e_var 4)) fun seen6 => (b_cons (n_set 4 (n3 := fun at'8 => [.val (List (Option Int)) marks, .val (List (T3 Int Int Int)) bounds, .val Int start, .own Int none seen6, .val Int at'8, .non]) C.nd (e_pl (j := 1) (f := fun (x : (T3 Int Int Int)) => x.b) (e_ix (EG.lg (e_var 1)) (e_getO (e_ixp (EG.lg (e_var 0)) (e_var 4)))))) fun at'8 => (b_nil (.s (.s (.s (.s (.s (.n .nil))))))))))) fun r3 => (r_retF (f_lc (ow := [(Str.ofString "unknown", 5)]) (ρw := [.val (List (Option Int)) marks, .val (List (T3 Int Int Int)) bounds, .val Int start, .own Int none r3.1, .val Int r3.2, .non]) C (i_list (FG.ej (f_slice (l_own 3) (o_some (e_lindex (l_own 3) (e_var 4))) o_none))) (fun s H Cc cl fp => ⟨(g_name 5 C.blk.nd), fun _ => lc_none, fun unknown19 => e_at [.val (List (Option Int)) marks, .val (List (T3 Int Int Int)) bounds, .val Int start, .own Int none r3.1, .val Int r3.2, .val Int unknown19] (e_getO (e_ixp (EG.lg (e_var 0)) (e_var 5)))⟩))))))
def m_least_scale (count : Int) (bounds : List (T3 Int Int Int)) : Res (Str × (List Int)) :=
  (Res.bind (repM [0] count) fun numbers1 => (Res.bind (repM [(none : Option Int)] count) fun marks2 => (Res.bind (Res.ok (none : Option Int)) fun changed3 => (thenR (Res.bind (guardR (inRange count) (Res.ok (rng 0 count))) fun z8 => forC (fun (r4 : (List Int) × (List (Option Int)) × (Option Int)) us5 => (Res.bind ((m__round r4.1 r4.2.1 bounds).quiet) fun y7 => (if ((y7.1).isNone) then liftC (Res.ok (Ctl.bk (y7.2.1, y7.2.2, y7.1))) else (Res.ok (Ctl.nx (y7.2.1, y7.2.2, y7.1)))))) z8 (numbers1, marks2, changed3)) fun r4 => (if ((r4.2.2).isNone) then (Res.ok ((Str.ofString "scale"), r4.1)) else (Res.bind (Res.bind (getO r4.2.2) fun a9 => m__ring r4.2.1 bounds a9) fun a10 => Res.ok ((Str.ofString "ring"), a10)))))))
abbrev s_least_scale : Stmt := topS 1
theorem sc_least_scale : FnScope ["count", "bounds", "numbers", "marks", "changed", "_"] ["count", "bounds"] (defScope s_least_scale) := ⟨rfl, rfl, rfl, by decide +kernel, rfl, by decide +kernel, by decide +kernel⟩
theorem ok_least_scale {P : Program} {w : World} {K : PySem.W.Frag} {mg : Str → Option Value} {base : Heap} (G : Fx P K mg) : FOk P w K mg base "least_scale" 2 (spOf K (asC (T := Int) (asC (T := (List (T3 Int Int Int))) asN)) (fun u : Int × (List (T3 Int Int Int)) × Unit => m_least_scale u.1 u.2.1)) := by
  obtain ⟨fd, F⟩ := G.d_least_scale
  refine fok_data (ρ0 := fun u : Int × (List (T3 Int Int Int)) × Unit => [.val Int u.1, .val (List (T3 Int Int Int)) u.2.1, .non, .non, .non, .non]) F G.g_least_scale sc_least_scale (F.bindsN (ps := ["count", "bounds"]) fun _ _ _ _ _ _ us hl => match us, hl with | [_, _], _ => rfl) (by intro _; rfl) (by intro _; rfl) fun cdv A outer s H E C => ?_
  rintro ⟨count, bounds, ⟨⟩⟩
  show SR _ _ none [.val Int count, .val (List (T3 Int Int Int)) bounds, .non, .non, .non, .non] _ (retD (Str × (List Int))) (m_least_scale count bounds)
  unfold m_least_scale
  exact (r_cons (n_setF 2 (n3 := fun numbers1 => [.val Int count, .val (List (T3 Int Int Int)) bounds, .own Int none numbers1, .non, .non, .non]) C.nd (f_repp (FG.lg (f_list (mk := fun u => [u.1]) (a_consp e_int a_nil))) (e_var 0))) fun numbers1 => (r_cons (n_setF 3 (n3 := fun marks2 => [.val Int count, .val (List (T3 Int Int Int)) bounds, .own Int none numbers1, .own (Option Int) none marks2, .non, .non]) C.nd (f_repp (FG.lg (f_list (mk := fun u => [u.1]) (a_consp (e_upp up_none e_none) a_nil))) (e_var 0))) fun marks2 => (r_cons (n_set 4 (n3 := fun changed3 => [.val Int count, .val (List (T3 Int Int Int)) bounds, .own Int none numbers1, .own (Option Int) none marks2, .val (Option Int) changed3, .non]) C.nd (e_upp up_none e_none)) fun changed3 => (rc_cons (b := eb) (c_for (ρl := fun (r4 : (List Int) × (List (Option Int)) × (Option Int)) => [.val Int count, .val (List (T3 Int Int Int)) bounds, .own Int none r4.1, .own (Option Int) none r4.2.1, .val (Option Int) r4.2.2, .non]) (s0 := (numbers1, marks2, changed3)) C (i_range1p (e_var 0) G.n_range) (g_name 5 C.nd) (.s (.s (.s (.s (.s (.n .nil)))))) (fun r4 us5 => c_at [.val Int count, .val (List (T3 Int Int Int)) bounds, .own Int none r4.1, .own (Option Int) none r4.2.1, .val (Option Int) r4.2.2, .val Int us5] (c_cons (n_setM 4 (n3 := fun y7 => [.val Int count, .val (List (T3 Int Int Int)) bounds, .own Int none y7.2.1, .own (Option Int) none y7.2.2, .val (Option Int) y7.1, .val Int us5]) C.nd (m_call2 2 3 (n := fun y6 => [.val Int count, .val (List (T3 Int Int Int)) bounds, .own Int none y6.1, .own (Option Int) none y6.2, .val (Option Int) r4.2.2, .val Int us5]) C (ok__round G) (a_consp (e_var 1) a_nil))) fun y7 => (c_if1p (CJ.t (e_isNp (e_var 4))) (c_break (x := (y7.2.1, y7.2.2, y7.1)) (.s (.s (.s (.s (.s (.n .nil))))))) (c_nil (.s (.s (.s (.s (.s (.n .nil))))))))))) fun r4 => (r_ifp (CJ.t (e_isNp (e_var 4))) (r_free 2 (ρ' := [.val Int count, .val (List (T3 Int Int Int)) bounds, .val (List Int) r4.1, .own (Option Int) none r4.2.1, .val (Option Int) r4.2.2, .non]) (r_ret (e_tup (mk := (fun u => (u.1, u.2.1))) (a_consp e_str (a_consp (e_var 2) a_nil))))) (r_free 3 (ρ' := [.val Int count, .val (List (T3 Int Int Int)) bounds, .own Int none r4.1, .val (List (Option Int)) r4.2.1, .val (Option Int) r4.2.2, .non]) (r_ret (e_tup (mk := (fun u => (u.1, u.2.1))) (a_consp e_str (a_cons (FG.ej (f_call C (ok__ring G) (a_consp (e_var 3) (a_consp (e_var 1) (a_cons (e_getOp (e_var 4)) fun a9 => a_nil))))) fun a10 => a_nil))))))))))
def m_is_ring (bounds : List (T3 Int Int Int)) (ring : List Int) : Res Bool :=
  (Res.bind (orM (Res.ok (!(!ring.isEmpty))) (Res.bind (Res.bind (Res.bind (Res.ok ring) fun z6 => lcX (fun _ => Res.ok true) (fun place2 => (Res.bind (Res.ok 0) fun x3 => Res.bind (Res.ok place2) fun y4 => if decide (x3 ≤ y4) then Res.bind (Res.ok (bounds.length : Int)) fun z5 => Res.ok (decide (y4 < z5)) else Res.ok false)) z6) fun x7 => Res.ok (x7.all id)) fun x8 => Res.ok (!x8))) fun k32 => if k32 then (Res.ok false) else (Res.bind (Res.bind (Res.ok ring) fun z13 => lcX (fun _ => Res.ok true) (fun place11 => (Res.bind (idxM bounds place11) fun x12 => Res.ok x12.a)) z13) fun uppers9 => (Res.bind (Res.bind (Res.ok ring) fun z18 => lcX (fun _ => Res.ok true) (fun place16 => (Res.bind (idxM bounds place16) fun x17 => Res.ok x17.b)) z18) fun lowers14 => (Res.bind (orM (Res.bind (Res.ok lowers14) fun x19 => Res.bind (catM (cut uppers9 (some 1) none) (cut uppers9 none (some 1))) fun y20 => Res.ok ((!Dat.dec x19 y20))) (Res.bind (Res.bind (Res.ok uppers9) fun x21 => guardR (decide (x21.length ≤ 4000)) (Res.ok ((nubI x21).length : Int))) fun x22 => Res.bind (Res.ok (uppers9.length : Int)) fun y23 => Res.ok (!decide (x22 = y23)))) fun k31 => if k31 then (Res.ok false) else (Res.bind (Res.bind (Res.bind (Res.ok ring) fun z27 => lcX (fun _ => Res.ok true) (fun place25 => (Res.bind (idxM bounds place25) fun x26 => Res.ok x26.c)) z27) fun x28 => Res.ok x28.sum) fun x29 => Res.bind (Res.ok 0) fun y30 => Res.ok (decide (y30 < x29)))))))
abbrev s_is_ring : Stmt := topS 2
theorem sc_is_ring : FnScope ["bounds", "ring", "uppers", "lowers", "place"] ["bounds", "ring"] (defScope s_is_ring) := ⟨rfl, rfl, rfl, by decide +kernel, rfl, by decide +kernel, by decide +kernel⟩
theorem ok_is_ring {P : Program} {w : World} {K : PySem.W.Frag} {mg : Str → Option Value} {base : Heap} (G : Fx P K mg) : FOk P w K mg base "is_ring" 1 (spOf K (asC (T := (List (T3 Int Int Int))) (asC (T := (List Int)) asN)) (fun u : (List (T3 Int Int Int)) × (List Int) × Unit => m_is_ring u.1 u.2.1)) := by
  obtain ⟨fd, F⟩ := G.d_is_ring
  refine fok_data (ρ0 := fun u : (List (T3 Int Int Int)) × (List Int) × Unit => [.val (List (T3 Int Int Int)) u.1, .val (List Int) u.2.1, .non, .non, .non]) F G.g_is_ring sc_is_ring (F.bindsN (ps := ["bounds", "ring"]) fun _ _ _ _ _ _ us hl => match us, hl with | [_, _], _ => rfl) (by intro _; rfl) (by intro _; rfl) fun cdv A outer s H E C => ?_
  rintro ⟨bounds, ring, ⟨⟩⟩
  show SR _ _ none [.val (List (T3 Int Int Int)) bounds, .val (List Int) ring, .non, .non, .non] _ (retD Bool) (m_is_ring bounds ring)
  unfold m_is_ring
  exact (r_if (TWJ.pt (tw_or (t_notp (t_listp (EG.lg (e_var 1)))) (tw_or1 (t_not (t_val (e_all C.calm (FG.lg (f_lc (ow := [(Str.ofString "place", 4)]) (ρw := [.val (List (T3 Int Int Int)) bounds, .val (List Int) ring, .non, .non, .non]) C (i_list (e_var 1)) (fun s H Cc cl fp => ⟨(g_name 4 C.blk.nd), fun _ => lc_none, fun place2 => e_at [.val (List (T3 Int Int Int)) bounds, .val (List Int) ring, .non, .non, .val Int place2] (e_lelt e_int (e_var 4) (e_lenl (EG.lg (e_var 0)) G.n_len))⟩))) G.n_all)))))) (r_ret e_bool) (r_cons (n_lc 2 (n3 := fun uppers9 => [.val (List (T3 Int Int Int)) bounds, .val (List Int) ring, .val (List Int) uppers9, .non, .non]) (ow := [(Str.ofString "place", 4)]) (ρw := [.val (List (T3 Int Int Int)) bounds, .val (List Int) ring, .non, .non, .non]) C (i_list (e_var 1)) (fun s H Cc cl fp => ⟨(g_name 4 C.blk.nd), fun _ => lc_none, fun place11 => e_at [.val (List (T3 Int Int Int)) bounds, .val (List Int) ring, .non, .non, .val Int place11] (e_pl (j := 0) (f := fun (x : (T3 Int Int Int)) => x.a) (e_ixp (EG.lg (e_var 0)) (e_var 4)))⟩)) fun uppers9 => (r_cons (n_lc 3 (n3 := fun lowers14 => [.val (List (T3 Int Int Int)) bounds, .val (List Int) ring, .val (List Int) uppers9, .val (List Int) lowers14, .non]) (ow := [(Str.ofString "place", 4)]) (ρw := [.val (List (T3 Int Int Int)) bounds, .val (List Int) ring, .val (List Int) uppers9, .non, .non]) C (i_list (e_var 1)) (fun s H Cc cl fp => ⟨(g_name 4 C.blk.nd), fun _ => lc_none, fun place16 => e_at [.val (List (T3 Int Int Int)) bounds, .val (List Int) ring, .val (List Int) uppers9, .non, .val Int place16] (e_pl (j := 1) (f := fun (x : (T3 Int Int Int)) => x.b) (e_ixp (EG.lg (e_var 0)) (e_var 4)))⟩)) fun lowers14 => (r_if (TWJ.pt (tw_or (CJ.t (e_nedm C (e_var 3) (FG.ej (f_catp (FG.lg (f_slicep (EG.lg (e_var 2)) (o_somep e_int) o_none)) (FG.lg (f_slicep (EG.lg (e_var 2)) o_none (o_somep e_int))))))) (tw_or1 (CJ.t (e_ne (e_lenset C (EG.lg (e_var 2)) G.n_len G.n_set) (e_lenl (EG.lg (e_var 2)) G.n_len)))))) (r_ret e_bool) (r_ret (CJ.v (e_gt (e_sum C.calm (FG.lg (f_lc (ow := [(Str.ofString "place", 4)]) (ρw := [.val (List (T3 Int Int Int)) bounds, .val (List Int) ring, .val (List Int) uppers9, .val (List Int) lowers14, .non]) C (i_list (e_var 1)) (fun s H Cc cl fp => ⟨(g_name 4 C.blk.nd), fun _ => lc_none, fun place25 => e_at [.val (List (T3 Int Int Int)) bounds, .val (List Int) ring, .val (List Int) uppers9, .val (List Int) lowers14, .val Int place25] (e_pl (j := 2) (f := fun (x : (T3 Int Int Int)) => x.c) (e_ixp (EG.lg (e_var 0)) (e_var 4)))⟩))) G.n_sum) e_int)))))))
def m__law_is_whole (x : PD) : Res Bool :=
  (Res.ok ((isInt x) && (!(isBl x))))
abbrev s__law_is_whole : Stmt := topS 6
theorem sc__law_is_whole : FnScope ["x"] ["x"] (defScope s__law_is_whole) := ⟨rfl, rfl, rfl, by decide +kernel, rfl, by decide +kernel, by decide +kernel⟩
theorem ok__law_is_whole {P : Program} {w : World} {K : PySem.W.Frag} {mg : Str → Option Value} {base : Heap} (G : Fx P K mg) : FOk P w K mg base "_law_is_whole" 1 (spOf K (asC (T := PD) asN) (fun u : PD × Unit => m__law_is_whole u.1)) := by
  obtain ⟨fd, F⟩ := G.d__law_is_whole
  refine fok_data (ρ0 := fun u : PD × Unit => [.val PD u.1]) F G.g__law_is_whole sc__law_is_whole (F.bindsN (ps := ["x"]) fun _ _ _ _ _ _ us hl => match us, hl with | [_], _ => rfl) (by intro _; rfl) (by intro _; rfl) fun cdv A outer s H E C => ?_
  rintro ⟨x, ⟨⟩⟩
  show SR _ _ none [.val PD x] _ (retD Bool) (m__law_is_whole x)
  unfold m__law_is_whole
  exact (r_ret (e_andp (e_isip (f := isInt) (hk := isInt_ok) (e_var 0) G.n_isinstance G.n_int) (e_and1 (e_notp (e_isip (f := isBl) (hk := isBl_ok) (e_var 0) G.n_isinstance G.n_bool)))))
def m__law_cell (script : Scr) (k : Int) : Res Int :=
  (if decide (k < (script.ns.length : Int)) then (idxM script.ns k) else (Res.ok 0))
abbrev s__law_cell : Stmt := topS 7
theorem sc__law_cell : FnScope ["script", "k"] ["script", "k"] (defScope s__law_cell) := ⟨rfl, rfl, rfl, by decide +kernel, rfl, by decide +kernel, by decide +kernel⟩
theorem ok__law_cell {P : Program} {w : World} {K : PySem.W.Frag} {mg : Str → Option Value} {base : Heap} (G : Fx P K mg) : FOk P w K mg base "_law_cell" 1 (spOf K (asC (T := Scr) (asC (T := Int) asN)) (fun u : Scr × Int × Unit => m__law_cell u.1 u.2.1)) := by
  obtain ⟨fd, F⟩ := G.d__law_cell
  refine fok_data (ρ0 := fun u : Scr × Int × Unit => [.val Scr u.1, .val Int u.2.1]) F G.g__law_cell sc__law_cell (F.bindsN (ps := ["script", "k"]) fun _ _ _ _ _ _ us hl => match us, hl with | [_, _], _ => rfl) (by intro _; rfl) (by intro _; rfl) fun cdv A outer s H E C => ?_
  rintro ⟨script, k, ⟨⟩⟩
  show SR _ _ none [.val Scr script, .val Int k] _ (retD Int) (m__law_cell script k)
  unfold m__law_cell
  exact (r_ifp (CJ.t (e_ltp (e_var 1) (e_lenscr (e_var 0) G.n_len))) (r_ret (e_ixscrp (e_var 0) (e_var 1))) (r_ret e_int))
def m__law_many (script : Scr) (k : Int) (many : Int) (limit : Int) : Res (List Int) :=
  (Res.bind (m__law_cell script k) fun cell1 => (Res.bind (Res.ok ((cell1).natAbs : Int)) fun left2 => (Res.bind (Res.ok ([] : List Int)) fun found3 => (Res.bind (Res.bind (guardR (inRange many) (Res.ok (rng 0 many))) fun z40 => forR (fun (r4 : Int × (List Int)) turn5 => (Res.bind (Res.bind (andM (Res.bind (Res.ok ((cell1).natAbs : Int)) fun x6 => Res.bind (powM 10 18) fun y7 => Res.ok (decide (y7 ≤ x6))) (Res.ok (decide (0 < r4.1)))) fun k39 => if k39 then (Res.bind (Res.bind (modM r4.1 limit) fun y10 => appM r4.2 y10) fun found9 => (Res.bind (divM r4.1 limit) fun left11 => (Res.ok (left11, found9)))) else (Res.bind (Res.bind (Res.bind (Res.bind (Res.bind (mulM cell1 48271) fun x13 => Res.bind (mulM turn5 69621) fun y14 => Res.ok (x13 + y14)) fun x15 => Res.bind (mulM 17 k) fun y16 => Res.ok (x15 + y16)) fun x17 => Res.bind (Res.ok 11) fun y18 => Res.ok (x17 + y18)) fun x19 => Res.bind (Res.ok 2147483647) fun y20 => modM x19 y20) fun mixed12 => (Res.bind (Res.bind (Res.bind (Res.bind (mulM mixed12 mixed12) fun x22 => Res.bind (mulM turn5 40692) fun y23 => Res.ok (x22 + y23)) fun x24 => Res.bind (Res.ok 3) fun y25 => Res.ok (x24 + y25)) fun x26 => Res.bind (Res.ok 2147483399) fun y27 => modM x26 y27) fun mixed21 => (Res.bind (Res.bind (Res.bind (Res.bind (mulM mixed21 mixed21) fun x29 => Res.bind (mulM turn5 7) fun y30 => Res.ok (x29 + y30)) fun x31 => Res.bind (Res.ok k) fun y32 => Res.ok (x31 + y32)) fun x33 => Res.bind (Res.ok 2147483579) fun y34 => modM x33 y34) fun mixed28 => (Res.bind (Res.bind (Res.bind (divM mixed28 64) fun x35 => Res.bind (Res.ok limit) fun y36 => modM x35 y36) fun y38 => appM r4.2 y38) fun found37 => (Res.ok (r4.1, found37))))))) fun r8 => (Res.ok (r8.1, r8.2)))) z40 (left2, found3)) fun r4 => (Res.ok r4.2)))))
abbrev s__law_many : Stmt := topS 8
theorem sc__law_many : FnScope ["script", "k", "many", "limit", "cell", "left", "found", "turn", "mixed"] ["script", "k", "many", "limit"] (defScope s__law_many) := ⟨rfl, rfl, rfl, by decide +kernel, rfl, by decide +kernel, by decide +kernel⟩
theorem ok__law_many {P : Program} {w : World} {K : PySem.W.Frag} {mg : Str → Option Value} {base : Heap} (G : Fx P K mg) : FOk P w K mg base "_law_many" 2 (spFr K (asC (T := Scr) (asC (T := Int) (asC (T := Int) (asC (T := Int) asN)))) (fun u : Scr × Int × Int × Int × Unit => m__law_many u.1 u.2.1 u.2.2.1 u.2.2.2.1)) := by
  obtain ⟨fd, F⟩ := G.d__law_many
  refine fok_fr (ρ0 := fun u : Scr × Int × Int × Int × Unit => [.val Scr u.1, .val Int u.2.1, .val Int u.2.2.1, .val Int u.2.2.2.1, .non, .non, .non, .non, .non]) F G.g__law_many sc__law_many (F.bindsN (ps := ["script", "k", "many", "limit"]) fun _ _ _ _ _ _ us hl => match us, hl with | [_, _, _, _], _ => rfl) (by intro _; rfl) (by intro _; rfl) fun cdv A outer s H E C => ?_
  rintro ⟨script, k, many, limit, ⟨⟩⟩
  show SR _ _ none [.val Scr script, .val Int k, .val Int many, .val Int limit, .non, .non, .non, .non, .non] _ (retF Int) (m__law_many script k many limit)
  unfold m__law_many
  exact (r_cons (n_set 4 (n3 := fun cell1 => [.val Scr script, .val Int k, .val Int many, .val Int limit, .val Int cell1, .non, .non, .non, .non]) C.nd (e_call C (ok__law_cell G) (a_consp (e_var 0) (a_consp (e_var 1) a_nil)))) fun cell1 => (r_cons (n_set 5 (n3 := fun left2 => [.val Scr script, .val Int k, .val Int many, .val Int limit, .val Int cell1, .val Int left2, .non, .non, .non]) C.nd (e_absp (e_var 4) G.n_abs)) fun left2 => (r_cons (n_setF 6 (n3 := fun found3 => [.val Scr script, .val Int k, .val Int many, .val Int limit, .val Int cell1, .val Int left2, .own Int none found3, .non, .non]) C.nd (f_list (mk := (fun _ => ([] : List Int))) a_nil)) fun found3 => (r_cons (n_for (ρl := fun (r4 : Int × (List Int)) => [.val Scr script, .val Int k, .val Int many, .val Int limit, .val Int cell1, .val Int r4.1, .own Int none r4.2, .non, .non]) (s0 := (left2, found3)) C (i_range1p (e_var 2) G.n_range) (g_name 7 C.nd) (.s (.s (.s (.s (.s (.s (.s (.n (.n .nil))))))))) (fun r4 turn5 => b_at [.val Scr script, .val Int k, .val Int many, .val Int limit, .val Int cell1, .val Int r4.1, .own Int none r4.2, .val Int turn5, .non] (b_cons (n_if (n := fun (r8 : Int × (List Int)) => [.val Scr script, .val Int k, .val Int many, .val Int limit, .val Int cell1, .val Int r8.1, .own Int none r8.2, .val Int turn5, .non]) (TWJ.pt (tw_and (CJ.t (e_ge (e_absp (e_var 4) G.n_abs) (e_powp e_int e_int))) (tw_and1 (CJ.t (e_gtp (e_var 5) e_int))))) (b_cons (n_app 6 (n3 := fun found9 => [.val Scr script, .val Int k, .val Int many, .val Int limit, .val Int cell1, .val Int r4.1, .own Int none found9, .val Int turn5, .non]) (e_modp (e_int1p (e_var 5) G.n_int) (e_var 3))) fun found9 => (b_cons (n_set 5 (n3 := fun left11 => [.val Scr script, .val Int k, .val Int many, .val Int limit, .val Int cell1, .val Int left11, .own Int none found9, .val Int turn5, .non]) C.nd (e_fdivp (e_var 5) (e_var 3))) fun left11 => (b_nil (.s (.s (.s (.s (.s (.s (.s (.s (.n .nil)))))))))))) (b_cons (n_set 8 (n3 := fun mixed12 => [.val Scr script, .val Int k, .val Int many, .val Int limit, .val Int cell1, .val Int r4.1, .own Int none r4.2, .val Int turn5, .val Int mixed12]) C.nd (e_mod (e_int1m (e_add (e_add (e_add (e_mulp (e_var 4) e_int) (e_mulp (e_var 7) e_int)) (e_mulp e_int (e_var 1))) e_int) G.n_int) e_int)) fun mixed12 => (b_cons (n_set 8 (n3 := fun mixed21 => [.val Scr script, .val Int k, .val Int many, .val Int limit, .val Int cell1, .val Int r4.1, .own Int none r4.2, .val Int turn5, .val Int mixed21]) C.nd (e_mod (e_int1m (e_add (e_add (e_mulp (e_var 8) (e_var 8)) (e_mulp (e_var 7) e_int)) e_int) G.n_int) e_int)) fun mixed21 => (b_cons (n_set 8 (n3 := fun mixed28 => [.val Scr script, .val Int k, .val Int many, .val Int limit, .val Int cell1, .val Int r4.1, .own Int none r4.2, .val Int turn5, .val Int mixed28]) C.nd (e_mod (e_int1m (e_add (e_add (e_mulp (e_var 8) (e_var 8)) (e_mulp (e_var 7) e_int)) (e_var 1)) G.n_int) e_int)) fun mixed28 => (b_cons (n_app 6 (n3 := fun found37 => [.val Scr script, .val Int k, .val Int many, .val Int limit, .val Int cell1, .val Int r4.1, .own Int none found37, .val Int turn5, .val Int mixed28]) (e_mod (e_int1m (e_fdivp (e_var 8) e_int) G.n_int) (e_var 3))) fun found37 => (b_nil (.s (.s (.s (.s (.s (.s (.s (.s (.n .nil))))))))))))))) fun r8 => (b_nil (.s (.s (.s (.s (.s (.s (.s (.n (.n .nil))))))))))))) fun r4 => (r_retOwn 6)))))
def m__law_whole_list (actual : List Int) : Res Bool :=
  (if (!true) then (Res.ok false) else (Res.bind (Res.bind (Res.bind (Res.ok actual) fun z3 => lcX (fun x2 => (m__law_is_whole (PD.mk (Dat.toD x2)))) (fun x2 => (Res.ok x2)) z3) Len.len) fun x4 => Res.bind (Res.ok (actual.length : Int)) fun y5 => Res.ok (decide (x4 = y5))))
abbrev s__law_whole_list : Stmt := topS 9
theorem sc__law_whole_list : FnScope ["actual", "x"] ["actual"] (defScope s__law_whole_list) := ⟨rfl, rfl, rfl, by decide +kernel, rfl, by decide +kernel, by decide +kernel⟩
theorem ok__law_whole_list {P : Program} {w : World} {K : PySem.W.Frag} {mg : Str → Option Value} {base : Heap} (G : Fx P K mg) : FOk P w K mg base "_law_whole_list" 2 (spOf K (asC (T := (List Int)) asN) (fun u : (List Int) × Unit => m__law_whole_list u.1)) := by
  obtain ⟨fd, F⟩ := G.d__law_whole_list
  refine fok_data (ρ0 := fun u : (List Int) × Unit => [.val (List Int) u.1, .non]) F G.g__law_whole_list sc__law_whole_list (F.bindsN (ps := ["actual"]) fun _ _ _ _ _ _ us hl => match us, hl with | [_], _ => rfl) (by intro _; rfl) (by intro _; rfl) fun cdv A outer s H E C => ?_
  rintro ⟨actual, ⟨⟩⟩
  show SR _ _ none [.val (List Int) actual, .non] _ (retD Bool) (m__law_whole_list actual)
  unfold m__law_whole_list
  exact (r_ifp (t_notp (t_val (e_isip (T := (List Int)) (c := "list") (f := fun _ => true) (hk := fun _ => (by decide +kernel : kitB "list" "list" = some true)) (e_var 0) G.n_isinstance G.n_list))) (r_ret e_bool) (r_ret (CJ.v (e_eq (e_len (FG.ej (f_lc (ow := [(Str.ofString "x", 1)]) (ρw := [.val (List Int) actual, .non]) C (i_list (e_var 0)) (fun s H Cc cl fp => ⟨(g_name 1 C.blk.nd), fun x2 => lc_one (t_at [.val (List Int) actual, .val Int x2] (t_val (e_call C.blk (ok__law_is_whole G) (a_consp (e_toDp (e_var 1)) a_nil)))), fun x2 => e_at [.val (List Int) actual, .val Int x2] (e_var 1)⟩))) G.n_len) (e_lenl (EG.lg (e_var 0)) G.n_len)))))
def m__law_longest (count : Int) (bounds : List (T3 Int Int Int)) : Res (Option (List Int)) :=
  (Res.bind (Res.bind (guardR (inRange count) (Res.ok (rng 0 count))) fun z4 => lcX (fun _ => Res.ok true) (fun turn3 => (Res.ok 0)) z4) fun numbers1 => (thenR (Res.bind (guardR (inRange (count + 1)) (Res.ok (rng 0 (count + 1)))) fun z23 => forC (fun (r5 : (List Int)) turn6 => (Res.bind (Res.ok false) fun changed7 => (Res.bind (Res.bind (Res.ok bounds) fun z22 => forR (fun (r8 : (List Int) × Bool) bound9 => (Res.bind (Res.bind (Res.bind (idxM r8.1 bound9.a) fun x12 => Res.bind (Res.bind (idxM r8.1 bound9.b) fun x10 => Res.bind (Res.ok bound9.c) fun y11 => Res.ok (x10 + y11)) fun y13 => Res.ok (decide (x12 < y13))) fun k21 => if k21 then (Res.bind (Res.bind (Res.bind (idxM r8.1 bound9.b) fun x15 => Res.bind (Res.ok bound9.c) fun y16 => Res.ok (x15 + y16)) fun a18 => Res.bind (Res.ok bound9.a) fun b19 => setM r8.1 b19 a18) fun numbers17 => (Res.bind (Res.ok true) fun changed20 => (Res.ok (numbers17, changed20)))) else (Res.ok (r8.1, r8.2))) fun r14 => (Res.ok (r14.1, r14.2)))) z22 (r5, changed7)) fun r8 => (if (!r8.2) then liftC (Res.ok (Ctl.rt (some r8.1))) else (Res.ok (Ctl.nx r8.1)))))) z23 numbers1) fun r5 => (Res.ok (none : Option (List Int)))))
abbrev s__law_longest : Stmt := topS 10
theorem sc__law_longest : FnScope ["count", "bounds", "numbers", "turn", "changed", "bound"] ["count", "bounds"] (defScope s__law_longest) := ⟨rfl, rfl, rfl, by decide +kernel, rfl, by decide +kernel, by decide +kernel⟩
theorem ok__law_longest {P : Program} {w : World} {K : PySem.W.Frag} {mg : Str → Option Value} {base : Heap} (G : Fx P K mg) : FOk P w K mg base "_law_longest" 1 (spOf K (asC (T := Int) (asC (T := (List (T3 Int Int Int))) asN)) (fun u : Int × (List (T3 Int Int Int)) × Unit => m__law_longest u.1 u.2.1)) := by
  obtain ⟨fd, F⟩ := G.d__law_longest
  refine fok_data (ρ0 := fun u : Int × (List (T3 Int Int Int)) × Unit => [.val Int u.1, .val (List (T3 Int Int Int)) u.2.1, .non, .non, .non, .non]) F G.g__law_longest sc__law_longest (F.bindsN (ps := ["count", "bounds"]) fun _ _ _ _ _ _ us hl => match us, hl with | [_, _], _ => rfl) (by intro _; rfl) (by intro _; rfl) fun cdv A outer s H E C => ?_
  rintro ⟨count, bounds, ⟨⟩⟩
  show SR _ _ none [.val Int count, .val (List (T3 Int Int Int)) bounds, .non, .non, .non, .non] _ (retD (Option (List Int))) (m__law_longest count bounds)
  unfold m__law_longest
  exact (r_cons (n_lcF 2 (n3 := fun numbers1 => [.val Int count, .val (List (T3 Int Int Int)) bounds, .own Int none numbers1, .non, .non, .non]) (ow := [(Str.ofString "turn", 3)]) (ρw := [.val Int count, .val (List (T3 Int Int Int)) bounds, .non, .non, .non, .non]) C (i_range1p (e_var 0) G.n_range) (fun s H Cc cl fp => ⟨(g_name 3 C.blk.nd), fun _ => lc_none, fun turn3 => e_at [.val Int count, .val (List (T3 Int Int Int)) bounds, .non, .val Int turn3, .non, .non] e_int⟩)) fun numbers1 => (rc_cons (b := eb) (c_for (ρl := fun (r5 : (List Int)) => [.val Int count, .val (List (T3 Int Int Int)) bounds, .own Int none r5, .non, .non, .non]) (s0 := numbers1) C (i_range1p (e_addp (e_var 0) e_int) G.n_range) (g_name 3 C.nd) (.s (.s (.s (.n (.n (.n .nil)))))) (fun r5 turn6 => c_at [.val Int count, .val (List (T3 Int Int Int)) bounds, .own Int none r5, .val Int turn6, .non, .non] (c_cons (n_set 4 (n3 := fun changed7 => [.val Int count, .val (List (T3 Int Int Int)) bounds, .own Int none r5, .val Int turn6, .val Bool changed7, .non]) C.nd e_bool) fun changed7 => (c_cons (n_for (ρl := fun (r8 : (List Int) × Bool) => [.val Int count, .val (List (T3 Int Int Int)) bounds, .own Int none r8.1, .val Int turn6, .val Bool r8.2, .non]) (s0 := (r5, changed7)) C (i_list (e_var 1)) (g_name 5 C.nd) (.s (.s (.s (.s (.s (.n .nil)))))) (fun r8 bound9 => b_at [.val Int count, .val (List (T3 Int Int Int)) bounds, .own Int none r8.1, .val Int turn6, .val Bool r8.2, .val (T3 Int Int Int) bound9] (b_cons (n_if (n := fun (r14 : (List Int) × Bool) => [.val Int count, .val (List (T3 Int Int Int)) bounds, .own Int none r14.1, .val Int turn6, .val Bool r14.2, .val (T3 Int Int Int) bound9]) (CJ.t (e_lt (e_ixp (l_own 2) (e_plp (j := 0) (f := fun (x : (T3 Int Int Int)) => x.a) (e_var 5))) (e_add (e_ixp (l_own 2) (e_plp (j := 1) (f := fun (x : (T3 Int Int Int)) => x.b) (e_var 5))) (e_plp (j := 2) (f := fun (x : (T3 Int Int Int)) => x.c) (e_var 5))))) (b_cons (n_setix 2 (n3 := fun numbers17 => [.val Int count, .val (List (T3 Int Int Int)) bounds, .own Int none numbers17, .val Int turn6, .val Bool r8.2, .val (T3 Int Int Int) bound9]) (e_add (e_ixp (l_own 2) (e_plp (j := 1) (f := fun (x : (T3 Int Int Int)) => x.b) (e_var 5))) (e_plp (j := 2) (f := fun (x : (T3 Int Int Int)) => x.c) (e_var 5))) (e_plp (j := 0) (f := fun (x : (T3 Int Int Int)) => x.a) (e_var 5))) fun numbers17 => (b_cons (n_set 4 (n3 := fun changed20 => [.val Int count, .val (List (T3 Int Int Int)) bounds, .own Int none numbers17, .val Int turn6, .val Bool changed20, .val (T3 Int Int Int) bound9]) C.nd e_bool) fun changed20 => (b_nil (.s (.s (.s (.s (.s (.s .nil))))))))) (b_nil (.s (.s (.s (.s (.s (.s .nil)))))))) fun r14 => (b_nil (.s (.s (.s (.s (.s (.n .nil)))))))))) fun r8 => (c_if1p (t_notp (t_val (e_var 4))) (SR.cp (r_free 2 (ρ' := [.val Int count, .val (List (T3 Int Int Int)) bounds, .val (List Int) r8.1, .val Int turn6, .val Bool r8.2, .non]) (r_ret (e_upp up_some (e_var 2))))) (c_nil (.s (.s (.s (.n (.n (.n .nil)))))))))))) fun r5 => (r_ret (e_upp up_none e_none))))
def m__law_ring (bounds : List (T3 Int Int Int)) (ring : List Int) : Res Bool :=
  (Res.bind (orM (Res.bind (m__law_whole_list ring) fun x1 => Res.ok (!x1)) (Res.ok (decide ((ring.length : Int) = 0)))) fun k27 => if k27 then (Res.ok false) else (Res.bind (Res.ok 0) fun total2 => (Res.bind (Res.ok ([] : List Int)) fun seen3 => (thenR (Res.bind (guardR (inRange (ring.length : Int)) (Res.ok (rng 0 (ring.length : Int)))) fun z26 => forC (fun (r4 : Int × (List Int)) at'5 => (Res.bind (orM (Res.bind (idxM ring at'5) fun x6 => Res.bind (Res.ok 0) fun y7 => Res.ok (decide (x6 < y7))) (Res.bind (idxM ring at'5) fun x8 => Res.bind (Res.ok (bounds.length : Int)) fun y9 => Res.ok (decide (y9 ≤ x8)))) fun k25 => if k25 then liftC (Res.ok (Ctl.rt false)) else (Res.bind (Res.bind (Res.ok bounds) fun x11 => Res.bind (idxM ring at'5) fun y12 => idxM x11 y12) fun bound10 => (Res.bind (idxM ring 0) fun after13 => (Res.bind (if decide ((at'5 + 1) < (ring.length : Int)) then (Res.bind (idxM ring (at'5 + 1)) fun after15 => (Res.ok after15)) else (Res.ok after13)) fun r14 => (Res.bind (orM (Res.ok (decide (r14 < 0))) (orM (Res.ok (decide ((bounds.length : Int) ≤ r14))) (orM (Res.bind (Res.bind (idxM bounds r14) fun x16 => Res.ok x16.a) fun x17 => Res.bind (Res.ok bound10.b) fun y18 => Res.ok (!decide (x17 = y18))) (Res.bind (Res.ok bound10.a) fun x19 => Res.bind (Res.ok r4.2) fun y20 => Res.ok (decide (x19 ∈ y20)))))) fun k24 => if k24 then liftC (Res.ok (Ctl.rt false)) else (Res.bind (Res.bind (Res.ok bound10.a) fun y22 => appM r4.2 y22) fun seen21 => (Res.bind (Res.ok (r4.1 + bound10.c)) fun total23 => (Res.ok (Ctl.nx (total23, seen21))))))))))) z26 (total2, seen3)) fun r4 => (Res.ok (decide (0 < r4.1)))))))
abbrev s__law_ring : Stmt := topS 11
theorem sc__law_ring : FnScope ["bounds", "ring", "total", "seen", "at", "bound", "after"] ["bounds", "ring"] (defScope s__law_ring) := ⟨rfl, rfl, rfl, by decide +kernel, rfl, by decide +kernel, by decide +kernel⟩
theorem ok__law_ring {P : Program} {w : World} {K : PySem.W.Frag} {mg : Str → Option Value} {base : Heap} (G : Fx P K mg) : FOk P w K mg base "_law_ring" 3 (spOf K (asC (T := (List (T3 Int Int Int))) (asC (T := (List Int)) asN)) (fun u : (List (T3 Int Int Int)) × (List Int) × Unit => m__law_ring u.1 u.2.1)) := by
  obtain ⟨fd, F⟩ := G.d__law_ring
  refine fok_data (ρ0 := fun u : (List (T3 Int Int Int)) × (List Int) × Unit => [.val (List (T3 Int Int Int)) u.1, .val (List Int) u.2.1, .non, .non, .non, .non, .non]) F G.g__law_ring sc__law_ring (F.bindsN (ps := ["bounds", "ring"]) fun _ _ _ _ _ _ us hl => match us, hl with | [_, _], _ => rfl) (by intro _; rfl) (by intro _; rfl) fun cdv A outer s H E C => ?_
  rintro ⟨bounds, ring, ⟨⟩⟩
  show SR _ _ none [.val (List (T3 Int Int Int)) bounds, .val (List Int) ring, .non, .non, .non, .non, .non] _ (retD Bool) (m__law_ring bounds ring)
  unfold m__law_ring
  exact (r_if (TWJ.pt (tw_or (t_not (t_val (e_call C (ok__law_whole_list G) (a_consp (e_var 1) a_nil)))) (tw_or1 (CJ.t (e_eqp (e_lenl (EG.lg (e_var 1)) G.n_len) e_int))))) (r_ret e_bool) (r_cons (n_set 2 (n3 := fun total2 => [.val (List (T3 Int Int Int)) bounds, .val (List Int) ring, .val Int total2, .non, .non, .non, .non]) C.nd e_int) fun total2 => (r_cons (n_setF 3 (n3 := fun seen3 => [.val (List (T3 Int Int Int)) bounds, .val (List Int) ring, .val Int total2, .own Int none seen3, .non, .non, .non]) C.nd (f_list (mk := (fun _ => ([] : List Int))) a_nil)) fun seen3 => (rc_cons (b := eb) (c_for (ρl := fun (r4 : Int × (List Int)) => [.val (List (T3 Int Int Int)) bounds, .val (List Int) ring, .val Int r4.1, .own Int none r4.2, .non, .non, .non]) (s0 := (total2, seen3)) C (i_range1p (e_lenl (EG.lg (e_var 1)) G.n_len) G.n_range) (g_name 4 C.nd) (.s (.s (.s (.s (.n (.n (.n .nil))))))) (fun r4 at'5 => c_at [.val (List (T3 Int Int Int)) bounds, .val (List Int) ring, .val Int r4.1, .own Int none r4.2, .val Int at'5, .non, .non] (c_if1 (TWJ.pt (tw_or (CJ.t (e_lt (e_ixp (EG.lg (e_var 1)) (e_var 4)) e_int)) (tw_or1 (CJ.t (e_ge (e_ixp (EG.lg (e_var 1)) (e_var 4)) (e_lenl (EG.lg (e_var 0)) G.n_len)))))) (SR.cp (r_ret e_bool)) (c_cons (n_set 5 (n3 := fun bound10 => [.val (List (T3 Int Int Int)) bounds, .val (List Int) ring, .val Int r4.1, .own Int none r4.2, .val Int at'5, .val (T3 Int Int Int) bound10, .non]) C.nd (e_ix (EG.lg (e_var 0)) (e_ixp (EG.lg (e_var 1)) (e_var 4)))) fun bound10 => (c_cons (n_set 6 (n3 := fun after13 => [.val (List (T3 Int Int Int)) bounds, .val (List Int) ring, .val Int r4.1, .own Int none r4.2, .val Int at'5, .val (T3 Int Int Int) bound10, .val Int after13]) C.nd (e_ixp (EG.lg (e_var 1)) e_int)) fun after13 => (c_cons (n_ifp (n := fun (r14 : Int) => [.val (List (T3 Int Int Int)) bounds, .val (List Int) ring, .val Int r4.1, .own Int none r4.2, .val Int at'5, .val (T3 Int Int Int) bound10, .val Int r14]) (CJ.t (e_ltp (e_addp (e_var 4) e_int) (e_lenl (EG.lg (e_var 1)) G.n_len))) (b_cons (n_set 6 (n3 := fun after15 => [.val (List (T3 Int Int Int)) bounds, .val (List Int) ring, .val Int r4.1, .own Int none r4.2, .val Int at'5, .val (T3 Int Int Int) bound10, .val Int after15]) C.nd (e_ixp (EG.lg (e_var 1)) (e_addp (e_var 4) e_int))) fun after15 => (b_nil (.s (.s (.s (.s (.s (.s (.s .nil))))))))) (b_nil (.s (.s (.s (.s (.s (.s (.s .nil))))))))) fun r14 => (c_if1 (TWJ.pt (tw_or (CJ.t (e_ltp (e_var 6) e_int)) (tw_or (CJ.t (e_gep (e_var 6) (e_lenl (EG.lg (e_var 0)) G.n_len))) (tw_or (CJ.t (e_ne (e_pl (j := 0) (f := fun (x : (T3 Int Int Int)) => x.a) (e_ixp (EG.lg (e_var 0)) (e_var 6))) (e_plp (j := 1) (f := fun (x : (T3 Int Int Int)) => x.b) (e_var 5)))) (tw_or1 (CJ.t (e_inl (e_plp (j := 0) (f := fun (x : (T3 Int Int Int)) => x.a) (e_var 5)) (e_own 3)))))))) (SR.cp (r_ret e_bool)) (c_cons (n_app 3 (n3 := fun seen21 => [.val (List (T3 Int Int Int)) bounds, .val (List Int) ring, .val Int r4.1, .own Int none seen21, .val Int at'5, .val (T3 Int Int Int) bound10, .val Int r14]) (e_plp (j := 0) (f := fun (x : (T3 Int Int Int)) => x.a) (e_var 5))) fun seen21 => (c_cons (n_set 2 (n3 := fun total23 => [.val (List (T3 Int Int Int)) bounds, .val (List Int) ring, .val Int total23, .own Int none seen21, .val Int at'5, .val (T3 Int Int Int) bound10, .val Int r14]) C.nd (e_addp (e_var 2) (e_plp (j := 2) (f := fun (x : (T3 Int Int Int)) => x.c) (e_var 5)))) fun total23 => (c_nil (.s (.s (.s (.s (.n (.n (.n .nil))))))))))))))))) fun r4 => (r_ret (CJ.v (e_gtp (e_var 2) e_int)))))))
def m__law_judged (bounds : List (T3 Int Int Int)) (ring : List Int) : Res Bool :=
  (Res.bind (Res.bind (m_is_ring bounds ring) fun x1 => Res.ok (!x1)) fun k17 => if k17 then (Res.ok false) else (thenR (Res.bind (Res.bind (Res.bind (Res.ok ring) fun x6 => Res.bind (Res.bind (idxM ring 0) fun a5 => Res.ok [a5]) fun y7 => catM x6 y7) fun a8 => Res.bind (catM (cut ring (some 1) none) [(bounds.length : Int)]) fun a9 => Res.bind (catM [(-1)] (cut ring (some 1) none)) fun a10 => Res.ok [([] : List Int), a8, (cut ring (some 1) none), a9, a10]) fun z16 => forC (fun (r11 : Unit) wrong12 => (Res.bind (m_is_ring bounds wrong12) fun told13 => (thenC (Res.bind (m__law_ring bounds wrong12) fun k15 => if k15 then (if (!decide (told13 = true)) then liftC (Res.ok (Ctl.rt false)) else (Res.ok (Ctl.nx ()))) else (if (!decide (told13 = false)) then liftC (Res.ok (Ctl.rt false)) else (Res.ok (Ctl.nx ())))) fun r14 => (Res.ok (Ctl.nx ()))))) z16 ()) fun r11 => (Res.ok true)))
abbrev s__law_judged : Stmt := topS 12
theorem sc__law_judged : FnScope ["bounds", "ring", "wrong", "told"] ["bounds", "ring"] (defScope s__law_judged) := ⟨rfl, rfl, rfl, by decide +kernel, rfl, by decide +kernel, by decide +kernel⟩
theorem ok__law_judged {P : Program} {w : World} {K : PySem.W.Frag} {mg : Str → Option Value} {base : Heap} (G : Fx P K mg) : FOk P w K mg base "_law_judged" 4 (spOf K (asC (T := (List (T3 Int Int Int))) (asC (T := (List Int)) asN)) (fun u : (List (T3 Int Int Int)) × (List Int) × Unit => m__law_judged u.1 u.2.1)) := by
  obtain ⟨fd, F⟩ := G.d__law_judged
  refine fok_data (ρ0 := fun u : (List (T3 Int Int Int)) × (List Int) × Unit => [.val (List (T3 Int Int Int)) u.1, .val (List Int) u.2.1, .non, .non]) F G.g__law_judged sc__law_judged (F.bindsN (ps := ["bounds", "ring"]) fun _ _ _ _ _ _ us hl => match us, hl with | [_, _], _ => rfl) (by intro _; rfl) (by intro _; rfl) fun cdv A outer s H E C => ?_
  rintro ⟨bounds, ring, ⟨⟩⟩
  show SR _ _ none [.val (List (T3 Int Int Int)) bounds, .val (List Int) ring, .non, .non] _ (retD Bool) (m__law_judged bounds ring)
  unfold m__law_judged
  exact (r_if (t_not (t_val (e_call C (ok_is_ring G) (a_consp (FG.ej (f_listofp (EG.lg (e_var 0)) G.n_list)) (a_consp (FG.ej (f_listofp (EG.lg (e_var 1)) G.n_list)) a_nil))))) (r_ret e_bool) (rc_cons (b := eb) (c_for (ρl := fun (r11 : Unit) => [.val (List (T3 Int Int Int)) bounds, .val (List Int) ring, .non, .non]) (s0 := ()) C (i_list (FG.ej (f_list (mk := fun u => [u.1, u.2.1, u.2.2.1, u.2.2.2.1, u.2.2.2.2.1]) (a_consp (FG.ej (f_list (mk := (fun _ => ([] : List Int))) a_nil)) (a_cons (FG.ej (f_catm (EG.lg (e_var 1)) (FG.lg (f_list (mk := fun u => [u.1]) (a_cons (e_ixp (EG.lg (e_var 1)) e_int) fun a5 => a_nil))))) fun a8 => (a_consp (FG.ej (f_slicep (EG.lg (e_var 1)) (o_somep e_int) o_none)) (a_cons (FG.ej (f_catp (FG.lg (f_slicep (EG.lg (e_var 1)) (o_somep e_int) o_none)) (FG.lg (f_list (mk := fun u => [u.1]) (a_consp (e_lenl (EG.lg (e_var 0)) G.n_len) a_nil))))) fun a9 => (a_cons (FG.ej (f_catp (FG.lg (f_list (mk := fun u => [u.1]) (a_consp (e_negp e_int) a_nil))) (FG.lg (f_slicep (EG.lg (e_var 1)) (o_somep e_int) o_none)))) fun a10 => a_nil)))))))) (g_name 2 C.nd) (.s (.s (.n (.n .nil)))) (fun r11 wrong12 => c_at [.val (List (T3 Int Int Int)) bounds, .val (List Int) ring, .val (List Int) wrong12, .non] (c_cons (n_set 3 (n3 := fun told13 => [.val (List (T3 Int Int Int)) bounds, .val (List Int) ring, .val (List Int) wrong12, .val Bool told13]) C.nd (e_call C (ok_is_ring G) (a_consp (FG.ej (f_listofp (EG.lg (e_var 0)) G.n_list)) (a_consp (FG.ej (f_listofp (EG.lg (e_var 2)) G.n_list)) a_nil)))) fun told13 => (cc_cons (c_if (n := fun (r14 : Unit) => [.val (List (T3 Int Int Int)) bounds, .val (List Int) ring, .val (List Int) wrong12, .val Bool told13]) (t_val (e_call C (ok__law_ring G) (a_consp (e_var 0) (a_consp (e_var 2) a_nil)))) (c_if1p (CJ.t (e_isnotBp (e_var 3) e_bool)) (SR.cp (r_ret e_bool)) (c_nil (.s (.s (.s (.s .nil)))))) (c_if1p (CJ.t (e_isnotBp (e_var 3) e_bool)) (SR.cp (r_ret e_bool)) (c_nil (.s (.s (.s (.s .nil))))))) fun r14 => (c_nil (.s (.s (.n (.n .nil))))))))) fun r11 => (r_ret e_bool)))
def m__law_says (told : Bool) (due : Bool) : Res Bool :=
  (if due then (Res.ok (decide (told = true))) else (Res.ok (decide (told = false))))
abbrev s__law_says : Stmt := topS 13
theorem sc__law_says : FnScope ["told", "due"] ["told", "due"] (defScope s__law_says) := ⟨rfl, rfl, rfl, by decide +kernel, rfl, by decide +kernel, by decide +kernel⟩
theorem ok__law_says {P : Program} {w : World} {K : PySem.W.Frag} {mg : Str → Option Value} {base : Heap} (G : Fx P K mg) : FOk P w K mg base "_law_says" 1 (spOf K (asC (T := Bool) (asC (T := Bool) asN)) (fun u : Bool × Bool × Unit => m__law_says u.1 u.2.1)) := by
  obtain ⟨fd, F⟩ := G.d__law_says
  refine fok_data (ρ0 := fun u : Bool × Bool × Unit => [.val Bool u.1, .val Bool u.2.1]) F G.g__law_says sc__law_says (F.bindsN (ps := ["told", "due"]) fun _ _ _ _ _ _ us hl => match us, hl with | [_, _], _ => rfl) (by intro _; rfl) (by intro _; rfl) fun cdv A outer s H E C => ?_
  rintro ⟨told, due, ⟨⟩⟩
  show SR _ _ none [.val Bool told, .val Bool due] _ (retD Bool) (m__law_says told due)
  unfold m__law_says
  exact (r_ifp (t_val (e_var 1)) (r_ret (CJ.v (e_isBp (e_var 0) e_bool))) (r_ret (CJ.v (e_isBp (e_var 0) e_bool))))
def m__law_drawn_rings (script : Scr) : Res Bool :=
  (Res.bind (m__law_many script 7 7 840) fun picks1 => (Res.bind (Res.bind (Res.ok 1) fun x5 => Res.bind (Res.bind (idxM picks1 0) fun x3 => Res.bind (Res.ok 7) fun y4 => modM x3 y4) fun y6 => Res.ok (x5 + y6)) fun size2 => (Res.bind (Res.bind (Res.bind (Res.bind (idxM picks1 1) fun x7 => Res.bind (Res.ok 8) fun y8 => modM x7 y8) fun x9 => Res.bind (Res.ok 3) fun y10 => Res.ok (decide (x9 = y10))) fun k13 => if k13 then (Res.bind (Res.ok 16) fun size12 => (Res.ok size12)) else (Res.ok size2)) fun r11 => (Res.bind (m__law_many script 8 16 1009) fun keys14 => (Res.bind (Res.bind (Res.bind (Res.bind (guardR (inRange 16) (Res.ok (rng 0 16))) fun z19 => lcX (fun _ => Res.ok true) (fun at'17 => (Res.bind (idxM keys14 at'17) fun a18 => Res.ok (a18, at'17))) z19) fun x20 => Res.ok (sortP x20)) fun z23 => lcX (fun _ => Res.ok true) (fun pair22 => (Res.ok pair22.2)) z23) fun order15 => (Res.bind (Res.bind (m__law_many script 9 r11 1999) fun z27 => lcX (fun _ => Res.ok true) (fun x26 => (Res.ok (x26 - 999))) z27) fun gaps24 => (Res.bind (Res.bind (idxM picks1 2) fun x29 => Res.bind (Res.ok r11) fun y30 => modM x29 y30) fun cut28 => (Res.bind (Res.bind (idxM picks1 5) fun x32 => Res.bind (Res.ok r11) fun y33 => modM x32 y33) fun spot31 => (thenR (Res.bind (Res.bind (Res.bind (Res.bind (idxM picks1 4) fun x34 => Res.bind (Res.ok 41) fun y35 => modM x34 y35) fun x36 => Res.bind (Res.ok 20) fun y37 => Res.ok (x36 - y37)) fun a38 => Res.ok [0, 1, (-1), a38]) fun z97 => forC (fun (r39 : (List Int)) total40 => (Res.bind (Res.bind (Res.ok (total40 - ((cut r39 none (some (r11 - 1))).sum))) fun a42 => Res.bind (Res.ok (r11 - 1)) fun b43 => setM r39 b43 a42) fun gaps41 => (Res.bind (Res.bind (guardR (inRange r11) (Res.ok (rng 0 r11))) fun z52 => lcX (fun _ => Res.ok true) (fun at'46 => (Res.bind (idxM order15 at'46) fun a49 => Res.bind (Res.bind (Res.ok order15) fun x47 => Res.bind (modM (at'46 + 1) r11) fun y48 => idxM x47 y48) fun a50 => Res.bind (idxM gaps41 at'46) fun a51 => Res.ok (⟨a49, a50, a51⟩))) z52) fun bounds44 => (Res.bind (Res.bind (catM (cut bounds44 (some cut28) none) (cut bounds44 none (some cut28))) fun x62 => Res.bind (Res.bind (Res.bind (idxM order15 0) fun a58 => Res.bind (idxM order15 0) fun a59 => Res.bind (Res.bind (Res.bind (idxM picks1 3) fun x54 => Res.bind (Res.ok 7) fun y55 => modM x54 y55) fun x56 => Res.bind (Res.ok 3) fun y57 => Res.ok (x56 - y57)) fun a60 => Res.ok (⟨a58, a59, a60⟩)) fun a61 => Res.ok [a61]) fun y63 => catM x62 y63) fun bounds53 => (Res.bind (Res.bind (guardR (inRange r11) (Res.ok (rng 0 r11))) fun z67 => lcX (fun _ => Res.ok true) (fun at'66 => (modM (at'66 - cut28) r11)) z67) fun ring64 => (Res.bind (Res.ok ring64) fun other68 => (Res.bind (Res.bind (idxM ring64 spot31) fun a70 => Res.bind (Res.ok 0) fun b71 => setM other68 b71 a70) fun other69 => (Res.bind (Res.bind (idxM ring64 0) fun a73 => Res.bind (Res.ok spot31) fun b74 => setM other69 b74 a73) fun other72 => (Res.bind (Res.bind (catM (cut ring64 (some spot31) none) (cut ring64 none (some spot31))) fun a80 => Res.bind (catM ring64 ring64) fun a81 => Res.bind (catM ring64 [r11]) fun a82 => Res.ok [ring64, a80, a81, [r11], a82, [r11, r11], other72]) fun asked79 => (Res.bind (Res.bind (Res.ok asked79) fun x88 => Res.bind (Res.bind (catM (cut ring64 none (some spot31)) (cut ring64 (some (spot31 + 1)) none)) fun a86 => Res.bind (Res.bind (catM (cut ring64 none (some spot31)) [(r11 + 1)]) fun x84 => Res.bind (Res.ok (cut ring64 (some (spot31 + 1)) none)) fun y85 => catM x84 y85) fun a87 => Res.ok [([] : List Int), (cut ring64 none (some spot31)), a86, a87]) fun y89 => catM x88 y89) fun asked83 => (thenC (Res.bind (Res.ok asked83) fun z96 => forC (fun (r90 : Unit) one91 => (Res.bind (Res.bind (Res.bind (m_is_ring bounds53 one91) fun a92 => Res.bind (m__law_ring bounds53 one91) fun a93 => m__law_says a92 a93) fun x94 => Res.ok (!x94)) fun k95 => if k95 then liftC (Res.ok (Ctl.rt false)) else (Res.ok (Ctl.nx ())))) z96 ()) fun r90 => (Res.ok (Ctl.nx gaps41))))))))))))) z97 gaps24) fun r39 => (Res.ok true))))))))))
abbrev s__law_drawn_rings : Stmt := topS 14
theorem sc__law_drawn_rings : FnScope ["script", "picks", "size", "keys", "order", "gaps", "cut", "spot", "total", "bounds", "ring", "other", "asked", "one", "pair", "x", "at"] ["script"] (defScope s__law_drawn_rings) := ⟨rfl, rfl, rfl, by decide +kernel, rfl, by decide +kernel, by decide +kernel⟩
theorem ok__law_drawn_rings {P : Program} {w : World} {K : PySem.W.Frag} {mg : Str → Option Value} {base : Heap} (G : Fx P K mg) : FOk P w K mg base "_law_drawn_rings" 4 (spOf K (asC (T := Scr) asN) (fun u : Scr × Unit => m__law_drawn_rings u.1)) := by
  obtain ⟨fd, F⟩ := G.d__law_drawn_rings
  refine fok_data (ρ0 := fun u : Scr × Unit => [.val Scr u.1, .non, .non, .non, .non, .non, .non, .non, .non, .non, .non, .non, .non, .non, .non, .non, .non]) F G.g__law_drawn_rings sc__law_drawn_rings (F.bindsN (ps := ["script"]) fun _ _ _ _ _ _ us hl => match us, hl with | [_], _ => rfl) (by intro _; rfl) (by intro _; rfl) fun cdv A outer s H E C => ?_
  rintro ⟨script, ⟨⟩⟩
  show SR _ _ none [.val Scr script, .non, .non, .non, .non, .non, .non, .non, .non, .non, .non, .non, .non, .non, .non, .non, .non] _ (retD Bool) (m__law_drawn_rings script)
  unfold m__law_drawn_rings
  exact (r_cons (n_set 1 (n3 := fun picks1 => [.val Scr script, .val (List Int) picks1, .non, .non, .non, .non, .non, .non, .non, .non, .non, .non, .non, .non, .non, .non, .non]) C.nd (FG.ej (f_call C (ok__law_many G) (a_consp (e_var 0) (a_consp e_int (a_consp e_int (a_consp e_int a_nil))))))) fun picks1 => (r_cons (n_set 2 (n3 := fun size2 => [.val Scr script, .val (List Int) picks1, .val Int size2, .non, .non, .non, .non, .non, .non, .non, .non, .non, .non, .non, .non, .non, .non]) C.nd (e_add e_int (e_mod (e_int1m (e_ixp (EG.lg (e_var 1)) e_int) G.n_int) e_int))) fun size2 => (r_cons (n_if (n := fun (r11 : Int) => [.val Scr script, .val (List Int) picks1, .val Int r11, .non, .non, .non, .non, .non, .non, .non, .non, .non, .non, .non, .non, .non, .non]) (CJ.t (e_eq (e_mod (e_int1m (e_ixp (EG.lg (e_var 1)) e_int) G.n_int) e_int) e_int)) (b_cons (n_set 2 (n3 := fun size12 => [.val Scr script, .val (List Int) picks1, .val Int size12, .non, .non, .non, .non, .non, .non, .non, .non, .non, .non, .non, .non, .non, .non]) C.nd e_int) fun size12 => (b_nil (.s (.s (.s (.n (.n (.n (.n (.n (.n (.n (.n (.n (.n (.n (.n (.n (.n .nil))))))))))))))))))) (b_nil (.s (.s (.s (.n (.n (.n (.n (.n (.n (.n (.n (.n (.n (.n (.n (.n (.n .nil))))))))))))))))))) fun r11 => (r_cons (n_set 3 (n3 := fun keys14 => [.val Scr script, .val (List Int) picks1, .val Int r11, .val (List Int) keys14, .non, .non, .non, .non, .non, .non, .non, .non, .non, .non, .non, .non, .non]) C.nd (FG.ej (f_call C (ok__law_many G) (a_consp (e_var 0) (a_consp e_int (a_consp e_int (a_consp e_int a_nil))))))) fun keys14 => (r_cons (n_set 4 (n3 := fun order15 => [.val Scr script, .val (List Int) picks1, .val Int r11, .val (List Int) keys14, .val (List Int) order15, .non, .non, .non, .non, .non, .non, .non, .non, .non, .non, .non, .non]) C.nd (FG.ej (f_lc (ow := [(Str.ofString "pair", 14)]) (ρw := [.val Scr script, .val (List Int) picks1, .val Int r11, .val (List Int) keys14, .non, .non, .non, .non, .non, .non, .non, .non, .non, .non, .non, .non, .non]) C (i_list (FG.ej (f_sortP (FG.lg (f_lc (ow := [(Str.ofString "at", 16)]) (ρw := [.val Scr script, .val (List Int) picks1, .val Int r11, .val (List Int) keys14, .non, .non, .non, .non, .non, .non, .non, .non, .non, .non, .non, .non, .non]) C (i_range1p e_int G.n_range) (fun s H Cc cl fp => ⟨(g_name 16 C.blk.nd), fun _ => lc_none, fun at'17 => e_at [.val Scr script, .val (List Int) picks1, .val Int r11, .val (List Int) keys14, .non, .non, .non, .non, .non, .non, .non, .non, .non, .non, .non, .non, .val Int at'17] (e_tup (mk := (fun u => (u.1, u.2.1))) (a_cons (e_ixp (EG.lg (e_var 3)) (e_var 16)) fun a18 => (a_consp (e_var 16) a_nil)))⟩))) G.n_sorted))) (fun s H Cc cl fp => ⟨(g_name 14 C.blk.nd), fun _ => lc_none, fun pair22 => e_at [.val Scr script, .val (List Int) picks1, .val Int r11, .val (List Int) keys14, .non, .non, .non, .non, .non, .non, .non, .non, .non, .non, .val (Int × Int) pair22, .non, .non] (e_plp (j := 1) (f := fun (x : (Int × Int)) => x.2) (e_var 14))⟩)))) fun order15 => (r_cons (n_setF 5 (n3 := fun gaps24 => [.val Scr script, .val (List Int) picks1, .val Int r11, .val (List Int) keys14, .val (List Int) order15, .own Int none gaps24, .non, .non, .non, .non, .non, .non, .non, .non, .non, .non, .non]) C.nd (f_lc (ow := [(Str.ofString "x", 15)]) (ρw := [.val Scr script, .val (List Int) picks1, .val Int r11, .val (List Int) keys14, .val (List Int) order15, .non, .non, .non, .non, .non, .non, .non, .non, .non, .non, .non, .non]) C (i_list (FG.ej (f_call C (ok__law_many G) (a_consp (e_var 0) (a_consp e_int (a_consp (e_var 2) (a_consp e_int a_nil))))))) (fun s H Cc cl fp => ⟨(g_name 15 C.blk.nd), fun _ => lc_none, fun x26 => e_at [.val Scr script, .val (List Int) picks1, .val Int r11, .val (List Int) keys14, .val (List Int) order15, .non, .non, .non, .non, .non, .non, .non, .non, .non, .non, .val Int x26, .non] (e_subp (e_var 15) e_int)⟩))) fun gaps24 => (r_cons (n_set 6 (n3 := fun cut28 => [.val Scr script, .val (List Int) picks1, .val Int r11, .val (List Int) keys14, .val (List Int) order15, .own Int none gaps24, .val Int cut28, .non, .non, .non, .non, .non, .non, .non, .non, .non, .non]) C.nd (e_mod (e_int1m (e_ixp (EG.lg (e_var 1)) e_int) G.n_int) (e_var 2))) fun cut28 => (r_cons (n_set 7 (n3 := fun spot31 => [.val Scr script, .val (List Int) picks1, .val Int r11, .val (List Int) keys14, .val (List Int) order15, .own Int none gaps24, .val Int cut28, .val Int spot31, .non, .non, .non, .non, .non, .non, .non, .non, .non]) C.nd (e_mod (e_int1m (e_ixp (EG.lg (e_var 1)) e_int) G.n_int) (e_var 2))) fun spot31 => (rc_cons (b := eb) (c_for (ρl := fun (r39 : (List Int)) => [.val Scr script, .val (List Int) picks1, .val Int r11, .val (List Int) keys14, .val (List Int) order15, .own Int none r39, .val Int cut28, .val Int spot31, .non, .non, .non, .non, .non, .non, .non, .non, .non]) (s0 := gaps24) C (i_list (FG.ej (f_list (mk := fun u => [u.1, u.2.1, u.2.2.1, u.2.2.2.1]) (a_consp e_int (a_consp e_int (a_consp (e_negp e_int) (a_cons (e_sub (e_mod (e_int1m (e_ixp (EG.lg (e_var 1)) e_int) G.n_int) e_int) e_int) fun a38 => a_nil))))))) (g_name 8 C.nd) (.s (.s (.s (.s (.s (.s (.s (.s (.n (.n (.n (.n (.n (.n (.n (.n (.n .nil))))))))))))))))) (fun r39 total40 => c_at [.val Scr script, .val (List Int) picks1, .val Int r11, .val (List Int) keys14, .val (List Int) order15, .own Int none r39, .val Int cut28, .val Int spot31, .val Int total40, .non, .non, .non, .non, .non, .non, .non, .non] (c_cons (n_setix 5 (n3 := fun gaps41 => [.val Scr script, .val (List Int) picks1, .val Int r11, .val (List Int) keys14, .val (List Int) order15, .own Int none gaps41, .val Int cut28, .val Int spot31, .val Int total40, .non, .non, .non, .non, .non, .non, .non, .non]) (e_subp (e_var 8) (e_sump C.calm (FG.lg (f_slicep (l_own 5) o_none (o_somep (e_subp (e_var 2) e_int)))) G.n_sum)) (e_subp (e_var 2) e_int)) fun gaps41 => (c_cons (n_lc 9 (n3 := fun bounds44 => [.val Scr script, .val (List Int) picks1, .val Int r11, .val (List Int) keys14, .val (List Int) order15, .own Int none gaps41, .val Int cut28, .val Int spot31, .val Int total40, .val (List (T3 Int Int Int)) bounds44, .non, .non, .non, .non, .non, .non, .non]) (ow := [(Str.ofString "at", 16)]) (ρw := [.val Scr script, .val (List Int) picks1, .val Int r11, .val (List Int) keys14, .val (List Int) order15, .own Int none gaps41, .val Int cut28, .val Int spot31, .val Int total40, .non, .non, .non, .non, .non, .non, .non, .non]) C (i_range1p (e_var 2) G.n_range) (fun s H Cc cl fp => ⟨(g_name 16 C.blk.nd), fun _ => lc_none, fun at'46 => e_at [.val Scr script, .val (List Int) picks1, .val Int r11, .val (List Int) keys14, .val (List Int) order15, .own Int none gaps41, .val Int cut28, .val Int spot31, .val Int total40, .non, .non, .non, .non, .non, .non, .non, .val Int at'46] (e_tup (mk := (fun u => ⟨u.1, u.2.1, u.2.2.1⟩)) (a_cons (e_ixp (EG.lg (e_var 4)) (e_var 16)) fun a49 => (a_cons (e_ix (EG.lg (e_var 4)) (e_modp (e_int1p (e_addp (e_var 16) e_int) G.n_int) (e_var 2))) fun a50 => (a_cons (e_ixp (l_own 5) (e_var 16)) fun a51 => a_nil))))⟩)) fun bounds44 => (c_cons (n_set 9 (n3 := fun bounds53 => [.val Scr script, .val (List Int) picks1, .val Int r11, .val (List Int) keys14, .val (List Int) order15, .own Int none gaps41, .val Int cut28, .val Int spot31, .val Int total40, .val (List (T3 Int Int Int)) bounds53, .non, .non, .non, .non, .non, .non, .non]) C.nd (FG.ej (f_catm (FG.lg (f_catp (FG.lg (f_slicep (EG.lg (e_var 9)) (o_somep (e_var 6)) o_none)) (FG.lg (f_slicep (EG.lg (e_var 9)) o_none (o_somep (e_var 6)))))) (FG.lg (f_list (mk := fun u => [u.1]) (a_cons (e_tup (mk := (fun u => ⟨u.1, u.2.1, u.2.2.1⟩)) (a_cons (e_ixp (EG.lg (e_var 4)) e_int) fun a58 => (a_cons (e_ixp (EG.lg (e_var 4)) e_int) fun a59 => (a_cons (e_sub (e_mod (e_int1m (e_ixp (EG.lg (e_var 1)) e_int) G.n_int) e_int) e_int) fun a60 => a_nil)))) fun a61 => a_nil)))))) fun bounds53 => (c_cons (n_lc 10 (n3 := fun ring64 => [.val Scr script, .val (List Int) picks1, .val Int r11, .val (List Int) keys14, .val (List Int) order15, .own Int none gaps41, .val Int cut28, .val Int spot31, .val Int total40, .val (List (T3 Int Int Int)) bounds53, .val (List Int) ring64, .non, .non, .non, .non, .non, .non]) (ow := [(Str.ofString "at", 16)]) (ρw := [.val Scr script, .val (List Int) picks1, .val Int r11, .val (List Int) keys14, .val (List Int) order15, .own Int none gaps41, .val Int cut28, .val Int spot31, .val Int total40, .val (List (T3 Int Int Int)) bounds53, .non, .non, .non, .non, .non, .non, .non]) C (i_range1p (e_var 2) G.n_range) (fun s H Cc cl fp => ⟨(g_name 16 C.blk.nd), fun _ => lc_none, fun at'66 => e_at [.val Scr script, .val (List Int) picks1, .val Int r11, .val (List Int) keys14, .val (List Int) order15, .own Int none gaps41, .val Int cut28, .val Int spot31, .val Int total40, .val (List (T3 Int Int Int)) bounds53, .non, .non, .non, .non, .non, .non, .val Int at'66] (e_modp (e_int1p (e_subp (e_var 16) (e_var 6)) G.n_int) (e_var 2))⟩)) fun ring64 => (c_cons (n_setF 11 (n3 := fun other68 => [.val Scr script, .val (List Int) picks1, .val Int r11, .val (List Int) keys14, .val (List Int) order15, .own Int none gaps41, .val Int cut28, .val Int spot31, .val Int total40, .val (List (T3 Int Int Int)) bounds53, .val (List Int) ring64, .own Int none other68, .non, .non, .non, .non, .non]) C.nd (f_listofp (EG.lg (e_var 10)) G.n_list)) fun other68 => (c_cons (n_setix 11 (n3 := fun other69 => [.val Scr script, .val (List Int) picks1, .val Int r11, .val (List Int) keys14, .val (List Int) order15, .own Int none gaps41, .val Int cut28, .val Int spot31, .val Int total40, .val (List (T3 Int Int Int)) bounds53, .val (List Int) ring64, .own Int none other69, .non, .non, .non, .non, .non]) (e_ixp (EG.lg (e_var 10)) (e_var 7)) e_int) fun other69 => (c_cons (n_setix 11 (n3 := fun other72 => [.val Scr script, .val (List Int) picks1, .val Int r11, .val (List Int) keys14, .val (List Int) order15, .own Int none gaps41, .val Int cut28, .val Int spot31, .val Int total40, .val (List (T3 Int Int Int)) bounds53, .val (List Int) ring64, .own Int none other72, .non, .non, .non, .non, .non]) (e_ixp (EG.lg (e_var 10)) e_int) (e_var 7)) fun other72 => (c_free 11 (ρ' := [.val Scr script, .val (List Int) picks1, .val Int r11, .val (List Int) keys14, .val (List Int) order15, .own Int none gaps41, .val Int cut28, .val Int spot31, .val Int total40, .val (List (T3 Int Int Int)) bounds53, .val (List Int) ring64, .val (List Int) other72, .non, .non, .non, .non, .non]) (c_cons (n_set 12 (n3 := fun asked79 => [.val Scr script, .val (List Int) picks1, .val Int r11, .val (List Int) keys14, .val (List Int) order15, .own Int none gaps41, .val Int cut28, .val Int spot31, .val Int total40, .val (List (T3 Int Int Int)) bounds53, .val (List Int) ring64, .val (List Int) other72, .val (List (List Int)) asked79, .non, .non, .non, .non]) C.nd (FG.ej (f_list (mk := fun u => [u.1, u.2.1, u.2.2.1, u.2.2.2.1, u.2.2.2.2.1, u.2.2.2.2.2.1, u.2.2.2.2.2.2.1]) (a_consp (e_var 10) (a_cons (FG.ej (f_catp (FG.lg (f_slicep (EG.lg (e_var 10)) (o_somep (e_var 7)) o_none)) (FG.lg (f_slicep (EG.lg (e_var 10)) o_none (o_somep (e_var 7)))))) fun a80 => (a_cons (FG.ej (f_catp (EG.lg (e_var 10)) (EG.lg (e_var 10)))) fun a81 => (a_consp (FG.ej (f_list (mk := fun u => [u.1]) (a_consp (e_var 2) a_nil))) (a_cons (FG.ej (f_catp (EG.lg (e_var 10)) (FG.lg (f_list (mk := fun u => [u.1]) (a_consp (e_var 2) a_nil))))) fun a82 => (a_consp (FG.ej (f_list (mk := fun u => [u.1, u.2.1]) (a_consp (e_var 2) (a_consp (e_var 2) a_nil)))) (a_consp (e_var 11) a_nil)))))))))) fun asked79 => (c_cons (n_set 12 (n3 := fun asked83 => [.val Scr script, .val (List Int) picks1, .val Int r11, .val (List Int) keys14, .val (List Int) order15, .own Int none gaps41, .val Int cut28, .val Int spot31, .val Int total40, .val (List (T3 Int Int Int)) bounds53, .val (List Int) ring64, .val (List Int) other72, .val (List (List Int)) asked83, .non, .non, .non, .non]) C.nd (FG.ej (f_catm (EG.lg (e_var 12)) (FG.lg (f_list (mk := fun u => [u.1, u.2.1, u.2.2.1, u.2.2.2.1]) (a_consp (FG.ej (f_list (mk := (fun _ => ([] : List Int))) a_nil)) (a_consp (FG.ej (f_slicep (EG.lg (e_var 10)) o_none (o_somep (e_var 7)))) (a_cons (FG.ej (f_catp (FG.lg (f_slicep (EG.lg (e_var 10)) o_none (o_somep (e_var 7)))) (FG.lg (f_slicep (EG.lg (e_var 10)) (o_somep (e_addp (e_var 7) e_int)) o_none)))) fun a86 => (a_cons (FG.ej (f_catm (FG.lg (f_catp (FG.lg (f_slicep (EG.lg (e_var 10)) o_none (o_somep (e_var 7)))) (FG.lg (f_list (mk := fun u => [u.1]) (a_consp (e_addp (e_var 2) e_int) a_nil))))) (FG.lg (f_slicep (EG.lg (e_var 10)) (o_somep (e_addp (e_var 7) e_int)) o_none)))) fun a87 => a_nil))))))))) fun asked83 => (cc_cons (c_for (ρl := fun (r90 : Unit) => [.val Scr script, .val (List Int) picks1, .val Int r11, .val (List Int) keys14, .val (List Int) order15, .own Int none gaps41, .val Int cut28, .val Int spot31, .val Int total40, .val (List (T3 Int Int Int)) bounds53, .val (List Int) ring64, .val (List Int) other72, .val (List (List Int)) asked83, .non, .non, .non, .non]) (s0 := ()) C (i_list (e_var 12)) (g_name 13 C.nd) (.s (.s (.s (.s (.s (.s (.s (.s (.s (.s (.s (.s (.s (.n (.n (.n (.n .nil))))))))))))))))) (fun r90 one91 => c_at [.val Scr script, .val (List Int) picks1, .val Int r11, .val (List Int) keys14, .val (List Int) order15, .own Int none gaps41, .val Int cut28, .val Int spot31, .val Int total40, .val (List (T3 Int Int Int)) bounds53, .val (List Int) ring64, .val (List Int) other72, .val (List (List Int)) asked83, .val (List Int) one91, .non, .non, .non] (c_if1 (t_not (t_val (e_call C (ok__law_says G) (a_cons (e_call C (ok_is_ring G) (a_consp (FG.ej (f_listofp (EG.lg (e_var 9)) G.n_list)) (a_consp (FG.ej (f_listofp (EG.lg (e_var 13)) G.n_list)) a_nil))) fun a92 => (a_cons (e_call C (ok__law_ring G) (a_consp (e_var 9) (a_consp (e_var 13) a_nil))) fun a93 => a_nil))))) (SR.cp (r_ret e_bool)) (c_nil (.s (.s (.s (.s (.s (.s (.s (.s (.s (.s (.s (.s (.s (.n (.n (.n (.n .nil))))))))))))))))))))) fun r90 => (c_nil (.s (.s (.s (.s (.s (.s (.s (.s (.n (.n (.n (.n (.n (.n (.n (.n (.n .nil))))))))))))))))))))))))))))))) fun r39 => (r_ret e_bool))))))))))
def m__law_bounds (script : Scr) (count : Int) (many : Int) (wide : Int) (kept : Bool) : Res (List (T3 Int Int Int)) :=
  (Res.bind (m__law_many script 1 many count) fun uppers1 => (Res.bind (m__law_many script 2 many count) fun lowers2 => (Res.bind (Res.bind (Res.bind (mulM 2 wide) fun a4 => m__law_many script 3 many a4) fun z7 => lcX (fun _ => Res.ok true) (fun x6 => (Res.ok (x6 - wide))) z7) fun gaps3 => (Res.bind (m__law_many script 4 count 10) fun hidden8 => (Res.bind (m__law_many script 5 many 3) fun slack9 => (Res.bind (if kept then (Res.bind (Res.bind (guardR (inRange many) (Res.ok (rng 0 many))) fun z22 => lcX (fun _ => Res.ok true) (fun at'13 => (Res.bind (Res.bind (Res.bind (Res.ok hidden8) fun x14 => Res.bind (idxM uppers1 at'13) fun y15 => idxM x14 y15) fun x18 => Res.bind (Res.bind (Res.ok hidden8) fun x16 => Res.bind (idxM lowers2 at'13) fun y17 => idxM x16 y17) fun y19 => Res.ok (x18 - y19)) fun x20 => Res.bind (idxM slack9 at'13) fun y21 => Res.ok (x20 - y21))) z22) fun gaps11 => (Res.ok gaps11)) else (Res.ok gaps3)) fun r10 => (Res.bind (guardR (inRange many) (Res.ok (rng 0 many))) fun z28 => lcX (fun _ => Res.ok true) (fun at'24 => (Res.bind (idxM uppers1 at'24) fun a25 => Res.bind (idxM lowers2 at'24) fun a26 => Res.bind (idxM r10 at'24) fun a27 => Res.ok (⟨a25, a26, a27⟩))) z28)))))))
abbrev s__law_bounds : Stmt := topS 15
theorem sc__law_bounds : FnScope ["script", "count", "many", "wide", "kept", "uppers", "lowers", "gaps", "hidden", "slack", "x", "at"] ["script", "count", "many", "wide", "kept"] (defScope s__law_bounds) := ⟨rfl, rfl, rfl, by decide +kernel, rfl, by decide +kernel, by decide +kernel⟩
theorem ok__law_bounds {P : Program} {w : World} {K : PySem.W.Frag} {mg : Str → Option Value} {base : Heap} (G : Fx P K mg) : FOk P w K mg base "_law_bounds" 3 (spFr K (asC (T := Scr) (asC (T := Int) (asC (T := Int) (asC (T := Int) (asC (T := Bool) asN))))) (fun u : Scr × Int × Int × Int × Bool × Unit => m__law_bounds u.1 u.2.1 u.2.2.1 u.2.2.2.1 u.2.2.2.2.1)) := by
  obtain ⟨fd, F⟩ := G.d__law_bounds
  refine fok_fr (ρ0 := fun u : Scr × Int × Int × Int × Bool × Unit => [.val Scr u.1, .val Int u.2.1, .val Int u.2.2.1, .val Int u.2.2.2.1, .val Bool u.2.2.2.2.1, .non, .non, .non, .non, .non, .non, .non]) F G.g__law_bounds sc__law_bounds (F.bindsN (ps := ["script", "count", "many", "wide", "kept"]) fun _ _ _ _ _ _ us hl => match us, hl with | [_, _, _, _, _], _ => rfl) (by intro _; rfl) (by intro _; rfl) fun cdv A outer s H E C => ?_
  rintro ⟨script, count, many, wide, kept, ⟨⟩⟩
  show SR _ _ none [.val Scr script, .val Int count, .val Int many, .val Int wide, .val Bool kept, .non, .non, .non, .non, .non, .non, .non] _ (retF (T3 Int Int Int)) (m__law_bounds script count many wide kept)
  unfold m__law_bounds
  exact (r_cons (n_set 5 (n3 := fun uppers1 => [.val Scr script, .val Int count, .val Int many, .val Int wide, .val Bool kept, .val (List Int) uppers1, .non, .non, .non, .non, .non, .non]) C.nd (FG.ej (f_call C (ok__law_many G) (a_consp (e_var 0) (a_consp e_int (a_consp (e_var 2) (a_consp (e_var 1) a_nil))))))) fun uppers1 => (r_cons (n_set 6 (n3 := fun lowers2 => [.val Scr script, .val Int count, .val Int many, .val Int wide, .val Bool kept, .val (List Int) uppers1, .val (List Int) lowers2, .non, .non, .non, .non, .non]) C.nd (FG.ej (f_call C (ok__law_many G) (a_consp (e_var 0) (a_consp e_int (a_consp (e_var 2) (a_consp (e_var 1) a_nil))))))) fun lowers2 => (r_cons (n_set 7 (n3 := fun gaps3 => [.val Scr script, .val Int count, .val Int many, .val Int wide, .val Bool kept, .val (List Int) uppers1, .val (List Int) lowers2, .val (List Int) gaps3, .non, .non, .non, .non]) C.nd (FG.ej (f_lc (ow := [(Str.ofString "x", 10)]) (ρw := [.val Scr script, .val Int count, .val Int many, .val Int wide, .val Bool kept, .val (List Int) uppers1, .val (List Int) lowers2, .non, .non, .non, .non, .non]) C (i_list (FG.ej (f_call C (ok__law_many G) (a_consp (e_var 0) (a_consp e_int (a_consp (e_var 2) (a_cons (e_mulp e_int (e_var 3)) fun a4 => a_nil))))))) (fun s H Cc cl fp => ⟨(g_name 10 C.blk.nd), fun _ => lc_none, fun x6 => e_at [.val Scr script, .val Int count, .val Int many, .val Int wide, .val Bool kept, .val (List Int) uppers1, .val (List Int) lowers2, .non, .non, .non, .val Int x6, .non] (e_subp (e_var 10) (e_var 3))⟩)))) fun gaps3 => (r_cons (n_set 8 (n3 := fun hidden8 => [.val Scr script, .val Int count, .val Int many, .val Int wide, .val Bool kept, .val (List Int) uppers1, .val (List Int) lowers2, .val (List Int) gaps3, .val (List Int) hidden8, .non, .non, .non]) C.nd (FG.ej (f_call C (ok__law_many G) (a_consp (e_var 0) (a_consp e_int (a_consp (e_var 1) (a_consp e_int a_nil))))))) fun hidden8 => (r_cons (n_set 9 (n3 := fun slack9 => [.val Scr script, .val Int count, .val Int many, .val Int wide, .val Bool kept, .val (List Int) uppers1, .val (List Int) lowers2, .val (List Int) gaps3, .val (List Int) hidden8, .val (List Int) slack9, .non, .non]) C.nd (FG.ej (f_call C (ok__law_many G) (a_consp (e_var 0) (a_consp e_int (a_consp (e_var 2) (a_consp e_int a_nil))))))) fun slack9 => (r_cons (n_ifp (n := fun (r10 : (List Int)) => [.val Scr script, .val Int count, .val Int many, .val Int wide, .val Bool kept, .val (List Int) uppers1, .val (List Int) lowers2, .val (List Int) r10, .val (List Int) hidden8, .val (List Int) slack9, .non, .non]) (t_val (e_var 4)) (b_cons (n_set 7 (n3 := fun gaps11 => [.val Scr script, .val Int count, .val Int many, .val Int wide, .val Bool kept, .val (List Int) uppers1, .val (List Int) lowers2, .val (List Int) gaps11, .val (List Int) hidden8, .val (List Int) slack9, .non, .non]) C.nd (FG.ej (f_lc (ow := [(Str.ofString "at", 11)]) (ρw := [.val Scr script, .val Int count, .val Int many, .val Int wide, .val Bool kept, .val (List Int) uppers1, .val (List Int) lowers2, .val (List Int) gaps3, .val (List Int) hidden8, .val (List Int) slack9, .non, .non]) C (i_range1p (e_var 2) G.n_range) (fun s H Cc cl fp => ⟨(g_name 11 C.blk.nd), fun _ => lc_none, fun at'13 => e_at [.val Scr script, .val Int count, .val Int many, .val Int wide, .val Bool kept, .val (List Int) uppers1, .val (List Int) lowers2, .val (List Int) gaps3, .val (List Int) hidden8, .val (List Int) slack9, .non, .val Int at'13] (e_sub (e_sub (e_ix (EG.lg (e_var 8)) (e_ixp (EG.lg (e_var 5)) (e_var 11))) (e_ix (EG.lg (e_var 8)) (e_ixp (EG.lg (e_var 6)) (e_var 11)))) (e_ixp (EG.lg (e_var 9)) (e_var 11)))⟩)))) fun gaps11 => (b_nil (.s (.s (.s (.s (.s (.s (.s (.s (.s (.s (.n (.n .nil)))))))))))))) (b_nil (.s (.s (.s (.s (.s (.s (.s (.s (.s (.s (.n (.n .nil)))))))))))))) fun r10 => (r_retF (f_lc (ow := [(Str.ofString "at", 11)]) (ρw := [.val Scr script, .val Int count, .val Int many, .val Int wide, .val Bool kept, .val (List Int) uppers1, .val (List Int) lowers2, .val (List Int) r10, .val (List Int) hidden8, .val (List Int) slack9, .non, .non]) C (i_range1p (e_var 2) G.n_range) (fun s H Cc cl fp => ⟨(g_name 11 C.blk.nd), fun _ => lc_none, fun at'24 => e_at [.val Scr script, .val Int count, .val Int many, .val Int wide, .val Bool kept, .val (List Int) uppers1, .val (List Int) lowers2, .val (List Int) r10, .val (List Int) hidden8, .val (List Int) slack9, .non, .val Int at'24] (e_tup (mk := (fun u => ⟨u.1, u.2.1, u.2.2.1⟩)) (a_cons (e_ixp (EG.lg (e_var 5)) (e_var 11)) fun a25 => (a_cons (e_ixp (EG.lg (e_var 6)) (e_var 11)) fun a26 => (a_cons (e_ixp (EG.lg (e_var 7)) (e_var 11)) fun a27 => a_nil))))⟩)))))))))
def m_law (script : Scr) : Res Bool :=
  (Res.bind (Res.bind (m__law_drawn_rings script) fun x1 => Res.ok (!x1)) fun k63 => if k63 then (Res.ok false) else (Res.bind (m__law_cell script 0) fun size2 => (Res.bind (modM size2 8) fun count3 => (Res.bind (Res.bind (divM size2 8) fun x5 => Res.bind (Res.ok 15) fun y6 => modM x5 y6) fun many4 => (Res.bind (Res.bind (Res.bind (Res.bind (divM size2 120) fun x7 => Res.bind (Res.ok 16) fun y8 => modM x7 y8) fun x9 => Res.bind (Res.ok 5) fun y10 => Res.ok (decide (x9 = y10))) fun k14 => if k14 then (Res.bind (Res.ok 16) fun count12 => (Res.bind (Res.ok 60) fun many13 => (Res.ok (count12, many13)))) else (Res.ok (count3, many4))) fun r11 => (Res.bind (if (decide (r11.1 = 0)) then (Res.bind (Res.ok 0) fun many16 => (Res.ok many16)) else (Res.ok r11.2)) fun r15 => (Res.bind (Res.ok 4) fun wide17 => (Res.bind (Res.bind (Res.bind (Res.bind (divM size2 1920) fun x18 => Res.bind (Res.ok 8) fun y19 => modM x18 y19) fun x20 => Res.bind (Res.ok 3) fun y21 => Res.ok (decide (x20 = y21))) fun k24 => if k24 then (Res.bind (Res.ok 999999) fun wide23 => (Res.ok wide23)) else (Res.ok wide17)) fun r22 => (Res.bind (Res.bind (Res.bind (Res.bind (divM size2 15360) fun x26 => Res.bind (Res.ok 2) fun y27 => modM x26 y27) fun x28 => Res.bind (Res.ok 0) fun y29 => Res.ok (decide (x28 = y29))) fun a30 => m__law_bounds script r11.1 r15 r22 a30) fun bounds25 => (Res.bind (Res.bind (andM (Res.ok (decide (0 < r15))) (andM (Res.ok (decide (r15 < 60))) (andM (Res.ok (decide (1 < r11.1))) (Res.bind (Res.bind (divM size2 30720) fun x31 => Res.bind (Res.ok 4) fun y32 => modM x31 y32) fun x33 => Res.bind (Res.ok 0) fun y34 => Res.ok (decide (x33 = y34)))))) fun k53 => if k53 then (Res.bind (Res.bind (m__law_cell script 6) fun x37 => Res.bind (Res.ok r15) fun y38 => modM x37 y38) fun at'36 => (Res.bind (Res.bind (Res.bind (idxM bounds25 at'36) fun x40 => Res.ok x40.b) fun a47 => Res.bind (Res.bind (idxM bounds25 at'36) fun x41 => Res.ok x41.a) fun a48 => Res.bind (Res.bind (Res.bind (divM size2 122880) fun x42 => Res.bind (Res.ok 2) fun y43 => modM x42 y43) fun x45 => Res.bind (Res.bind (idxM bounds25 at'36) fun x44 => Res.ok x44.c) fun y46 => Res.ok (x45 - y46)) fun a49 => Res.ok (⟨a47, a48, a49⟩)) fun turned39 => (Res.bind (Res.bind (catM (cut bounds25 none (some (at'36 + 1))) [turned39]) fun x51 => Res.bind (Res.ok (cut bounds25 (some (at'36 + 1)) none)) fun y52 => catM x51 y52) fun bounds50 => (Res.ok bounds50)))) else (Res.ok bounds25)) fun r35 => (Res.bind (Res.ok r35) fun handed54 => (Res.bind (m_least_scale r11.1 handed54) fun answer55 => (Res.bind (orM (Res.ok ((!Dat.dec handed54 r35))) (orM (Res.ok (!true)) (orM (Res.bind (Len.len answer55) fun x56 => Res.bind (Res.ok 2) fun y57 => Res.ok (!decide (x56 = y57))) (Res.bind (m__law_whole_list answer55.2) fun x58 => Res.ok (!x58))))) fun k62 => if k62 then (Res.ok false) else (Res.bind (m__law_longest r11.1 r35) fun due59 => (if (!(due59).isNone) then (andM (Res.ok (decide (answer55.1 = (Str.ofString "scale")))) (Res.bind (Res.ok answer55.2) fun x60 => Res.bind (getO due59) fun y61 => Res.ok (Dat.dec x60 y61))) else (andM (Res.ok (decide (answer55.1 = (Str.ofString "ring")))) (andM (m__law_ring r35 answer55.2) (m__law_judged r35 answer55.2))))))))))))))))))
abbrev s_law : Stmt := topS 16
theorem sc_law : FnScope ["script", "size", "count", "many", "wide", "bounds", "at", "turned", "handed", "answer", "due"] ["script"] (defScope s_law) := ⟨rfl, rfl, rfl, by decide +kernel, rfl, by decide +kernel, by decide +kernel⟩
theorem okL_law {P : Program} {w : World} {K : PySem.W.Frag} {mg : Str → Option Value} (G : Fx P K mg) : ∃ fd, (∀ (s : Shared) (u : Value), BindsTo s fd ⟨[u], []⟩ [("script", u)]) ∧ ∀ base : Heap, FnOk P w K mg base (L2N.CX P w) 5 (He.ga K "law") fd ["script"] (spOf K (asC (T := Scr) asN) (fun u : Scr × Unit => m_law u.1)) := by
  obtain ⟨fd, F⟩ := G.d_law
  have b := FunD.bindsA (ps := ["script"]) F fun _ _ _ _ _ _ us hl => match us, hl with | [_], _ => rfl
  refine ⟨fd, fun s v => b s [v] rfl, fun base => ?_⟩
  refine fn_data (ρ0 := fun u : Scr × Unit => [.val Scr u.1, .non, .non, .non, .non, .non, .non, .non, .non, .non, .non]) F sc_law (by intro _; rfl) (by intro _; rfl) fun cdv A outer s H E C => ?_
  rintro ⟨script, ⟨⟩⟩
  show SR _ _ none [.val Scr script, .non, .non, .non, .non, .non, .non, .non, .non, .non, .non] _ (retD Bool) (m_law script)
  unfold m_law
  exact (r_if (t_not (t_val (e_call C (ok__law_drawn_rings G) (a_consp (e_var 0) a_nil)))) (r_ret e_bool) (r_cons (n_set 1 (n3 := fun size2 => [.val Scr script, .val Int size2, .non, .non, .non, .non, .non, .non, .non, .non, .non]) C.nd (e_call C (ok__law_cell G) (a_consp (e_var 0) (a_consp e_int a_nil)))) fun size2 => (r_cons (n_set 2 (n3 := fun count3 => [.val Scr script, .val Int size2, .val Int count3, .non, .non, .non, .non, .non, .non, .non, .non]) C.nd (e_modp (e_int1p (e_var 1) G.n_int) e_int)) fun count3 => (r_cons (n_set 3 (n3 := fun many4 => [.val Scr script, .val Int size2, .val Int count3, .val Int many4, .non, .non, .non, .non, .non, .non, .non]) C.nd (e_mod (e_int1m (e_fdivp (e_var 1) e_int) G.n_int) e_int)) fun many4 => (r_cons (n_if (n := fun (r11 : Int × Int) => [.val Scr script, .val Int size2, .val Int r11.1, .val Int r11.2, .non, .non, .non, .non, .non, .non, .non]) (CJ.t (e_eq (e_mod (e_int1m (e_fdivp (e_var 1) e_int) G.n_int) e_int) e_int)) (b_cons (n_set 2 (n3 := fun count12 => [.val Scr script, .val Int size2, .val Int count12, .val Int many4, .non, .non, .non, .non, .non, .non, .non]) C.nd e_int) fun count12 => (b_cons (n_set 3 (n3 := fun many13 => [.val Scr script, .val Int size2, .val Int count12, .val Int many13, .non, .non, .non, .non, .non, .non, .non]) C.nd e_int) fun many13 => (b_nil (.s (.s (.s (.s (.n (.n (.n (.n (.n (.n (.n .nil)))))))))))))) (b_nil (.s (.s (.s (.s (.n (.n (.n (.n (.n (.n (.n .nil))))))))))))) fun r11 => (r_cons (n_ifp (n := fun (r15 : Int) => [.val Scr script, .val Int size2, .val Int r11.1, .val Int r15, .non, .non, .non, .non, .non, .non, .non]) (CJ.t (e_eqp (e_var 2) e_int)) (b_cons (n_set 3 (n3 := fun many16 => [.val Scr script, .val Int size2, .val Int r11.1, .val Int many16, .non, .non, .non, .non, .non, .non, .non]) C.nd e_int) fun many16 => (b_nil (.s (.s (.s (.s (.n (.n (.n (.n (.n (.n (.n .nil))))))))))))) (b_nil (.s (.s (.s (.s (.n (.n (.n (.n (.n (.n (.n .nil))))))))))))) fun r15 => (r_cons (n_set 4 (n3 := fun wide17 => [.val Scr script, .val Int size2, .val Int r11.1, .val Int r15, .val Int wide17, .non, .non, .non, .non, .non, .non]) C.nd e_int) fun wide17 => (r_cons (n_if (n := fun (r22 : Int) => [.val Scr script, .val Int size2, .val Int r11.1, .val Int r15, .val Int r22, .non, .non, .non, .non, .non, .non]) (CJ.t (e_eq (e_mod (e_int1m (e_fdivp (e_var 1) e_int) G.n_int) e_int) e_int)) (b_cons (n_set 4 (n3 := fun wide23 => [.val Scr script, .val Int size2, .val Int r11.1, .val Int r15, .val Int wide23, .non, .non, .non, .non, .non, .non]) C.nd e_int) fun wide23 => (b_nil (.s (.s (.s (.s (.s (.n (.n (.n (.n (.n (.n .nil))))))))))))) (b_nil (.s (.s (.s (.s (.s (.n (.n (.n (.n (.n (.n .nil))))))))))))) fun r22 => (r_cons (n_set 5 (n3 := fun bounds25 => [.val Scr script, .val Int size2, .val Int r11.1, .val Int r15, .val Int r22, .val (List (T3 Int Int Int)) bounds25, .non, .non, .non, .non, .non]) C.nd (FG.ej (f_call C (ok__law_bounds G) (a_consp (e_var 0) (a_consp (e_var 2) (a_consp (e_var 3) (a_consp (e_var 4) (a_cons (CJ.v (e_eq (e_mod (e_int1m (e_fdivp (e_var 1) e_int) G.n_int) e_int) e_int)) fun a30 => a_nil)))))))) fun bounds25 => (r_cons (n_if (n := fun (r35 : (List (T3 Int Int Int))) => [.val Scr script, .val Int size2, .val Int r11.1, .val Int r15, .val Int r22, .val (List (T3 Int Int Int)) r35, .non, .non, .non, .non, .non]) (TWJ.pt (tw_and (CJ.t (e_gtp (e_var 3) e_int)) (tw_and (CJ.t (e_ltp (e_var 3) e_int)) (tw_and (CJ.t (e_gtp (e_var 2) e_int)) (tw_and1 (CJ.t (e_eq (e_mod (e_int1m (e_fdivp (e_var 1) e_int) G.n_int) e_int) e_int))))))) (b_cons (n_set 6 (n3 := fun at'36 => [.val Scr script, .val Int size2, .val Int r11.1, .val Int r15, .val Int r22, .val (List (T3 Int Int Int)) bounds25, .val Int at'36, .non, .non, .non, .non]) C.nd (e_mod (e_int1m (e_call C (ok__law_cell G) (a_consp (e_var 0) (a_consp e_int a_nil))) G.n_int) (e_var 3))) fun at'36 => (b_cons (n_set 7 (n3 := fun turned39 => [.val Scr script, .val Int size2, .val Int r11.1, .val Int r15, .val Int r22, .val (List (T3 Int Int Int)) bounds25, .val Int at'36, .val (T3 Int Int Int) turned39, .non, .non, .non]) C.nd (e_tup (mk := (fun u => ⟨u.1, u.2.1, u.2.2.1⟩)) (a_cons (e_pl (j := 1) (f := fun (x : (T3 Int Int Int)) => x.b) (e_ixp (EG.lg (e_var 5)) (e_var 6))) fun a47 => (a_cons (e_pl (j := 0) (f := fun (x : (T3 Int Int Int)) => x.a) (e_ixp (EG.lg (e_var 5)) (e_var 6))) fun a48 => (a_cons (e_sub (e_mod (e_int1m (e_fdivp (e_var 1) e_int) G.n_int) e_int) (e_pl (j := 2) (f := fun (x : (T3 Int Int Int)) => x.c) (e_ixp (EG.lg (e_var 5)) (e_var 6)))) fun a49 => a_nil))))) fun turned39 => (b_cons (n_set 5 (n3 := fun bounds50 => [.val Scr script, .val Int size2, .val Int r11.1, .val Int r15, .val Int r22, .val (List (T3 Int Int Int)) bounds50, .val Int at'36, .val (T3 Int Int Int) turned39, .non, .non, .non]) C.nd (FG.ej (f_catm (FG.lg (f_catp (FG.lg (f_slicep (EG.lg (e_var 5)) o_none (o_somep (e_addp (e_var 6) e_int)))) (FG.lg (f_list (mk := fun u => [u.1]) (a_consp (e_var 7) a_nil))))) (FG.lg (f_slicep (EG.lg (e_var 5)) (o_somep (e_addp (e_var 6) e_int)) o_none))))) fun bounds50 => (b_nil (.s (.s (.s (.s (.s (.s (.n (.n (.n (.n (.n .nil))))))))))))))) (b_nil (.s (.s (.s (.s (.s (.s (.n (.n (.n (.n (.n .nil))))))))))))) fun r35 => (r_cons (n_set 8 (n3 := fun handed54 => [.val Scr script, .val Int size2, .val Int r11.1, .val Int r15, .val Int r22, .val (List (T3 Int Int Int)) r35, .non, .non, .val (List (T3 Int Int Int)) handed54, .non, .non]) C.nd (FG.ej (f_listofp (EG.lg (e_var 5)) G.n_list))) fun handed54 => (r_cons (n_set 9 (n3 := fun answer55 => [.val Scr script, .val Int size2, .val Int r11.1, .val Int r15, .val Int r22, .val (List (T3 Int Int Int)) r35, .non, .non, .val (List (T3 Int Int Int)) handed54, .val (Str × (List Int)) answer55, .non]) C.nd (e_call C (ok_least_scale G) (a_consp (e_var 2) (a_consp (e_var 8) a_nil)))) fun answer55 => (r_if (TWJ.pt (tw_or (CJ.t (e_nedT C (e_var 8) (e_var 5))) (tw_or (t_notp (t_val (e_isip (T := (Str × (List Int))) (c := "tuple") (f := fun _ => true) (hk := fun _ => (by decide +kernel : kitB "tuple" "tuple" = some true)) (e_var 9) G.n_isinstance G.n_tuple))) (tw_or (CJ.t (e_ne (e_lenp (e_var 9) G.n_len) e_int)) (tw_or1 (t_not (t_val (e_call C (ok__law_whole_list G) (a_consp (e_plp (j := 1) (f := fun (x : (Str × (List Int))) => x.2) (e_var 9)) a_nil))))))))) (r_ret e_bool) (r_cons (n_set 10 (n3 := fun due59 => [.val Scr script, .val Int size2, .val Int r11.1, .val Int r15, .val Int r22, .val (List (T3 Int Int Int)) r35, .non, .non, .val (List (T3 Int Int Int)) handed54, .val (Str × (List Int)) answer55, .val (Option (List Int)) due59]) C.nd (e_call C (ok__law_longest G) (a_consp (e_var 2) (a_consp (e_var 5) a_nil)))) fun due59 => (r_ifp (CJ.t (e_isnotNp (e_var 10))) (r_ret (e_and (CJ.v (e_eqp (e_plp (j := 0) (f := fun (x : (Str × (List Int))) => x.1) (e_var 9)) e_str)) (e_and1 (CJ.v (e_eqdm C (e_plp (j := 1) (f := fun (x : (Str × (List Int))) => x.2) (e_var 9)) (e_getOp (e_var 10))))))) (r_ret (e_and (CJ.v (e_eqp (e_plp (j := 0) (f := fun (x : (Str × (List Int))) => x.1) (e_var 9)) e_str)) (e_and (e_call C (ok__law_ring G) (a_consp (e_var 5) (a_consp (e_plp (j := 1) (f := fun (x : (Str × (List Int))) => x.2) (e_var 9)) a_nil))) (e_and1 (e_call C (ok__law_judged G) (a_consp (e_var 5) (a_consp (e_plp (j := 1) (f := fun (x : (Str × (List Int))) => x.2) (e_var 9)) a_nil))))))))))))))))))))))
end Lw

set_option Elab.async false
set_option linter.all false
set_option maxRecDepth 100000
set_option maxHeartbeats 1000000
namespace Law
open PySem PySem.Spec L2 Py Lw
theorem cell_ok {s : Scr} {k : Int} (hk : 0 ≤ k) : Ok (m__law_cell s k) fun _ => True := by
  unfold m__law_cell
  by_cases h : k < (s.ns.length : Int)
  · rw [if_pos (decide_eq_true h), idx_ok hk h]; trivial
  · rw [if_neg (by simpa using h)]; trivial
theorem many_ok {s : Scr} {k many limit : Int} (hk : 0 ≤ k) (hk2 : k < 4294967296) (hm0 : 0 ≤ many) (hm : many ≤ 1000000) (hl : 0 < limit) (hl2 : limit < 4294967296) :
    Ok (m__law_many s k many limit) fun xs => xs.length = many.toNat ∧ ∀ x ∈ xs, 0 ≤ x ∧ x < limit := by
  unfold m__law_many
  refine wp (cell_ok hk) fun cell _ => ?_
  simp only [bok]
  rw [guardR_ok (inRange_of (by omega) (by omega))]
  simp only [bok]
  refine wp (P := fun r : Int × List Int => r.2.length = many.toNat ∧ ∀ x ∈ r.2, 0 ≤ x ∧ x < limit) ?_ fun r h => h
  have hlen : (rng 0 many).length = many.toNat := by rw [rng_length]; congr 1; omega
  rw [← hlen]
  refine (forR_wp (I := fun d (r : Int × List Int) => 0 ≤ r.1 ∧ r.2.length = d.length ∧ ∀ x ∈ r.2, 0 ≤ x ∧ x < limit) (done := []) ⟨by show (0 : Int) ≤ (cell.natAbs : Int); omega, rfl, by intro x hx; cases hx⟩ ?_).mono fun r h => ⟨by simpa using h.2.1, h.2.2⟩
  rintro d x r ⟨left, found⟩ e ⟨h1, h2, h3⟩
  have hx := rng_mem (lo := 0) (hi := many) (x := x) (by have e2 : rng 0 many = d ++ x :: r := e; rw [e2]; simp)
  have hd : d.length < sizeLine := by
    have e2 : rng 0 many = d ++ x :: r := e
    have := congrArg List.length e2
    rw [hlen, List.length_append, List.length_cons] at this
    show d.length < 16777216
    omega
  have hf : found.length < sizeLine := by have : found.length = d.length := h2; omega
  have fin : ∀ (l y : Int), 0 ≤ l → 0 ≤ y → y < limit → Ok (Res.ok (l, found ++ [y])) fun s' : Int × List Int => 0 ≤ s'.1 ∧ s'.2.length = (d ++ [x]).length ∧ ∀ x ∈ s'.2, 0 ≤ x ∧ x < limit := by
    intro l y hl0 hy0 hy1
    refine ⟨hl0, ?_, fun z hz => ?_⟩
    · show (found ++ [y]).length = _
      rw [List.length_append, List.length_append]
      have : found.length = d.length := h2
      rw [this]; rfl
    · rcases List.mem_append.mp hz with h | h
      · exact h3 z h
      · cases List.mem_singleton.mp h; exact ⟨hy0, hy1⟩
  have p18 : powM 10 18 = .ok 1000000000000000000 := rfl
  rw [p18]
  simp only [bok, andM_ok]
  split
  · rw [mod_pos hl]
    simp only [bok]
    rw [apn_ok hf]
    simp only [bok]
    rw [div_s hl hl2]
    exact fin _ _ (Int.ediv_nonneg h1 (by omega)) (Int.emod_nonneg _ (by omega)) (Int.emod_lt_of_pos _ hl)
  · rw [mul_r (x := cell) (by decide), mul_l (x := x) (by omega), mul_l (x := 17) (by decide)]
    simp only [bok]
    rw [mod_pos (by decide)]
    simp only [bok]
    generalize hA : (cell * 48271 + x * 69621 + 17 * k + 11) % 2147483647 = A
    have a1 : 0 ≤ A := by rw [← hA]; exact Int.emod_nonneg _ (by decide)
    have a2 : A < 2147483647 := by rw [← hA]; exact Int.emod_lt_of_pos _ (by decide)
    rw [mul_l (x := A) (by omega), mul_l (x := x) (by omega)]
    simp only [bok]
    rw [mod_pos (by decide)]
    simp only [bok]
    generalize hB : (A * A + x * 40692 + 3) % 2147483399 = B
    have b1 : 0 ≤ B := by rw [← hB]; exact Int.emod_nonneg _ (by decide)
    have b2 : B < 2147483399 := by rw [← hB]; exact Int.emod_lt_of_pos _ (by decide)
    rw [mul_l (x := B) (by omega), mul_l (x := x) (by omega)]
    simp only [bok]
    rw [mod_pos (by decide)]
    simp only [bok]
    rw [div_s (by decide) (by decide)]
    simp only [bok]
    rw [mod_pos hl]
    simp only [bok]
    rw [apn_ok hf]
    exact fin _ _ h1 (Int.emod_nonneg _ (by omega)) (Int.emod_lt_of_pos _ hl)
theorem many2 {s : Scr} {k many limit : Int} (hk : 0 ≤ k) (hk2 : k < 4294967296) (hm0 : 0 ≤ many) (hm : many ≤ 1000000) (hl : 0 < limit) (hl2 : limit < 4294967296) :
    Ok (m__law_many s k many limit) fun xs => (xs.length : Int) = many ∧ ∀ x ∈ xs, 0 ≤ x ∧ x < limit :=
  (many_ok hk hk2 hm0 hm hl hl2).mono fun xs h => ⟨by omega, h.2⟩
abbrev B := T3 Int Int Int
instance : Inhabited B := ⟨⟨0, 0, 0⟩⟩
theorem says_refl (b : Bool) : m__law_says b b = .ok true := by cases b <;> rfl
/-! ### rings -/
def okI (n : Nat) (x : Int) : Bool := decide (0 ≤ x) && decide (x < n)
def ups (bs : List B) (R : List Int) : List Int := R.map fun x => (at0 bs x).a
def lows (bs : List B) (R : List Int) : List Int := R.map fun x => (at0 bs x).b
def gsum (bs : List B) (R : List Int) : Int := (R.map fun x => (at0 bs x).c).sum
def rot (l : List Int) : List Int := l.drop 1 ++ l.take 1
structure RingP (bs : List B) (R : List Int) : Prop where
  ne : R ≠ []
  ok : ∀ x ∈ R, 0 ≤ x ∧ x < bs.length
  rt : lows bs R = rot (ups bs R)
  nd : (ups bs R).Nodup
  pos : 0 < gsum bs R
theorem nub_go (xs acc : List Int) (h : acc.Nodup) : ((xs.foldl PyProof.Rows.step_dedup acc).length ≤ acc.length + xs.length) ∧ ((xs.foldl PyProof.Rows.step_dedup acc).length = acc.length + xs.length ↔ (acc ++ xs).Nodup) := by
  induction xs generalizing acc with
  | nil => simp [h]
  | cons x r ih =>
    rw [List.foldl_cons]
    by_cases hx : x ∈ acc
    · have e : PyProof.Rows.step_dedup acc x = acc := if_pos (List.any_eq_true.mpr ⟨x, hx, by simp⟩)
      rw [e]
      obtain ⟨h1, h2⟩ := ih acc h
      refine ⟨by simp only [List.length_cons]; omega, ?_⟩
      constructor
      · intro z
        simp only [List.length_cons] at z
        omega
      · intro z
        exfalso
        rw [List.nodup_append] at z
        exact z.2.2 x hx x List.mem_cons_self rfl
    · have e : PyProof.Rows.step_dedup acc x = acc ++ [x] := if_neg fun z => by
        obtain ⟨y, hy, ey⟩ := List.any_eq_true.mp z
        exact hx ((beq_iff_eq.mp ey) ▸ hy)
      rw [e]
      have hn : (acc ++ [x]).Nodup := by
        rw [List.nodup_append]
        exact ⟨h, by simp, fun a ha b hb => by rw [List.mem_singleton.mp hb]; exact fun z => hx (z ▸ ha)⟩
      obtain ⟨h1, h2⟩ := ih (acc ++ [x]) hn
      rw [List.length_append] at h1 h2
      rw [List.append_assoc] at h2
      refine ⟨by simp only [List.length_cons, List.length_nil] at h1 ⊢; exact Nat.le_trans h1 (by omega), ?_⟩
      rw [show acc.length + (x :: r).length = acc.length + [x].length + r.length by simp only [List.length_cons, List.length_nil]; omega]
      exact h2
theorem nub_len (xs : List Int) : (nubI xs).length = xs.length ↔ xs.Nodup := by
  have h := (nub_go xs [] List.nodup_nil).2
  simpa [nubI] using h
open Classical in
noncomputable def isr (bs : List B) (R : List Int) : Bool := decide (RingP bs R)
open Classical in
theorem isr_t {bs : List B} {R : List Int} (h : RingP bs R) : isr bs R = true := by unfold isr; exact decide_eq_true h
open Classical in
theorem isr_f {bs : List B} {R : List Int} (h : ¬ RingP bs R) : isr bs R = false := by unfold isr; exact decide_eq_false h
theorem rot_len (l : List Int) : (rot l).length = l.length := by unfold rot; rw [List.length_append, List.length_drop, List.length_take]; omega
theorem is_ring_ok {bs : List B} {R : List Int} (hb : bs.length ≤ 1000) (hR : R.length ≤ 1000) : m_is_ring bs R = .ok (isr bs R) := by
  unfold m_is_ring
  simp only [bok]
  rw [lcX_ok (g := fun x => okI bs.length x) (by rw [sizeLine_eq]; omega) fun x hx => by
    by_cases h : (0 : Int) ≤ x
    · rw [if_pos (decide_eq_true h)]; unfold okI; rw [decide_eq_true h]; rfl
    · rw [if_neg (by simpa using h)]; unfold okI; rw [decide_eq_false h]; rfl]
  simp only [bok, orM_ok]
  by_cases hne : R = []
  · subst hne
    rw [isr_f (fun h : RingP bs [] => h.ne rfl)]
    rfl
  by_cases hall : ∀ x ∈ R, 0 ≤ x ∧ x < bs.length
  · have e1 : R.isEmpty = false := by cases R with
      | nil => exact absurd rfl hne
      | cons _ _ => rfl
    have e2 : (R.map fun x => okI bs.length x).all id = true := by
      rw [List.all_map]
      refine List.all_eq_true.mpr fun x hx => ?_
      have := hall x hx
      simp [okI, this.1, this.2]
    rw [e1, e2]
    simp only [Bool.not_false, Bool.not_true, Bool.or_self, Bool.false_eq_true, if_false]
    have step : ∀ {U : Type} (f : B → U), lcX (fun _ => Res.ok true) (fun x => (idxM bs x).bind fun b => Res.ok (f b)) R = .ok (R.map fun x => f (at0 bs x)) := fun f => lcX_ok (by rw [sizeLine_eq]; omega) fun x hx => by
      rw [idx0 (hall x hx).1 (hall x hx).2]
      simp only [bok]
    rw [step fun b => b.a]
    simp only [bok]
    rw [step fun b => b.b]
    simp only [bok]
    have hul : (ups bs R).length = R.length := List.length_map ..
    rw [show (R.map fun x => (at0 bs x).a) = ups bs R from rfl]
    have hpos : 0 < R.length := by cases R with
      | nil => exact absurd rfl hne
      | cons _ _ => simp
    rw [cut_from (by omega) (by omega), cut_to (by omega) (by omega), cat_ok (by rw [List.length_drop, List.length_take, sizeLine_eq]; omega), guardR_ok (decide_eq_true (by omega))]
    simp only [bok, orM_ok]
    rw [step fun b => b.c]
    simp only [bok]
    by_cases h3 : lows bs R = rot (ups bs R)
    · by_cases h4 : (ups bs R).Nodup
      · have e3 : Dat.dec (lows bs R) (rot (ups bs R)) = true := (Dat.iff _ _).mpr h3
        have e4 : ((nubI (ups bs R)).length : Int) = ((ups bs R).length : Int) := by rw [(nub_len _).mpr h4]
        show (if (!Dat.dec (lows bs R) (rot (ups bs R)) || !decide (((nubI (ups bs R)).length : Int) = ((ups bs R).length : Int))) = true then _ else _) = _
        rw [e3, decide_eq_true e4]
        simp only [Bool.not_true, Bool.or_self, Bool.false_eq_true, if_false]
        congr 1
        by_cases h5 : 0 < gsum bs R
        · rw [isr_t (show RingP bs R from ⟨hne, hall, h3, h4, h5⟩)]
          exact decide_eq_true h5
        · rw [isr_f (fun h : RingP bs R => h5 h.pos)]
          exact decide_eq_false h5
      · have e4 : ¬ ((nubI (ups bs R)).length : Int) = ((ups bs R).length : Int) := fun z => h4 ((nub_len _).mp (by omega))
        show (if (!Dat.dec (lows bs R) (rot (ups bs R)) || !decide (((nubI (ups bs R)).length : Int) = ((ups bs R).length : Int))) = true then _ else _) = _
        rw [decide_eq_false e4, Bool.not_false, Bool.or_true, if_pos rfl, isr_f (fun h : RingP bs R => h4 h.nd)]
    · have e3 : Dat.dec (lows bs R) (rot (ups bs R)) = false := Bool.eq_false_iff.mpr fun z => h3 ((Dat.iff _ _).mp z)
      show (if (!Dat.dec (lows bs R) (rot (ups bs R)) || !decide (((nubI (ups bs R)).length : Int) = ((ups bs R).length : Int))) = true then _ else _) = _
      rw [e3, Bool.not_false, Bool.true_or, if_pos rfl, isr_f (fun h : RingP bs R => h3 h.rt)]
  · have e2 : (R.map fun x => okI bs.length x).all id = false := by
      rw [List.all_map]
      refine Bool.eq_false_iff.mpr fun z => hall fun x hx => ?_
      have := List.all_eq_true.mp z x hx
      simpa [okI] using this
    rw [e2, Bool.not_false, Bool.or_true, if_pos rfl, isr_f (fun h : RingP bs R => hall h.ok)]
/-! ### the law's own ring -/
def anyP {α : Type} (p : List α → α → Bool) : List α → List α → Bool
  | _, [] => false
  | d, x :: r => p d x || anyP p (d ++ [x]) r
theorem forC_pre {S T B' R : Type} {f : S → T → Res (Ctl S S R)} {g : List T → S} {p : List T → T → Bool} {v : R} : ∀ {xs done : List T}, (∀ d x r, done ++ xs = d ++ x :: r → f (g d) x = .ok (if p d x then .rt v else .nx (g (d ++ [x])))) →
    (forC f xs (g done) : Res (Ctl S B' R)) = .ok (if anyP p done xs then .rt v else .nx (g (done ++ xs))) := by
  intro xs
  induction xs with
  | nil => intro done _; rw [List.append_nil]; rfl
  | cons x r ih =>
    intro done h
    show (f (g done) x).bind _ = _
    rw [h done x r rfl]
    show _ = Res.ok (if (p done x || anyP p (done ++ [x]) r) = true then _ else _)
    cases p done x with
    | true => rfl
    | false =>
      show forC f r (g (done ++ [x])) = _
      rw [ih fun d y q e => h d y q (by rw [← e]; simp)]
      rw [Bool.false_or, List.append_assoc]
      rfl
theorem anyP_false {α : Type} {p : List α → α → Bool} : ∀ {xs done : List α}, anyP p done xs = false ↔ ∀ d x r, done ++ xs = d ++ x :: r → done.length ≤ d.length → p d x = false := by
  intro xs
  induction xs with
  | nil =>
    intro done
    refine ⟨fun _ d x r e hl => ?_, fun _ => rfl⟩
    have := congrArg List.length e
    simp at this
    omega
  | cons x r ih =>
    intro done
    show (p done x || anyP p (done ++ [x]) r) = false ↔ _
    rw [Bool.or_eq_false_iff, ih]
    constructor
    · rintro ⟨h1, h2⟩ d y q e hl
      by_cases hd : d.length = done.length
      · have e2 := List.append_inj e hd.symm
        obtain ⟨e3, e4⟩ := e2
        cases e4
        rw [← e3]; exact h1
      · exact h2 d y q (by rw [← e]; simp) (by simp; omega)
    · intro h
      exact ⟨h done x r rfl (Nat.le_refl _), fun d y q e hl => h d y q (by rw [← e]; simp) (by simp at hl; omega)⟩
theorem rng_pre {n : Nat} {d r : List Int} {x : Int} (e : [] ++ rng 0 (n : Int) = d ++ x :: r) : x = (d.length : Int) ∧ d.length < n := by
  have hl := congrArg List.length e
  rw [List.nil_append, rng_len, List.length_append, List.length_cons] at hl
  have hd : d.length < (rng 0 (n : Int)).length := by rw [rng_len]; omega
  refine ⟨?_, by omega⟩
  have h1 := rng_at hd
  have h2 : ([] ++ rng 0 (n : Int))[d.length]? = (d ++ x :: r)[d.length]? := by rw [e]
  rw [List.nil_append, List.getElem?_eq_getElem hd, h1, List.getElem?_append_right (Nat.le_refl _), Nat.sub_self, List.getElem?_cons_zero] at h2
  exact (Option.some.inj h2).symm
theorem whole_list_ok {R : List Int} (h : R.length ≤ 1000) : m__law_whole_list R = .ok true := by
  unfold m__law_whole_list
  simp only [bok]
  rw [lcX_id (t := fun x2 : Int => m__law_is_whole (PD.mk (Dat.toD x2))) (p := fun _ => true) (by rw [sizeLine_eq]; omega) fun x hx => rfl]
  simp only [bok]
  rw [List.filter_eq_self.mpr (by simp)]
  simp only [Bool.not_true, Bool.false_eq_true, if_false]
  show Res.bind (Res.ok (R.length : Int)) _ = _
  simp only [bok, decide_true]
def nxt (R : List Int) (i : Int) : Int := if i + 1 < (R.length : Int) then at0 R (i + 1) else at0 R 0
def bad1 (bs : List B) (R : List Int) (d : List Int) (i : Int) : Bool :=
  (decide (at0 R i < 0) || decide ((bs.length : Int) ≤ at0 R i)) || (decide (nxt R i < 0) || (decide ((bs.length : Int) ≤ nxt R i) || (!decide ((at0 bs (nxt R i)).a = (at0 bs (at0 R i)).b) || decide ((at0 bs (at0 R i)).a ∈ ups bs (R.take d.length)))))
theorem take_snoc {R : List Int} {k : Nat} (h : k < R.length) : R.take (k + 1) = R.take k ++ [at0 R (k : Int)] := by
  rw [List.take_add_one, List.getElem?_eq_getElem h, at0_nat h]
  rfl
theorem law_ring_eq {bs : List B} {R : List Int} (hb : bs.length ≤ 1000) (hR : R.length ≤ 1000) : m__law_ring bs R = .ok (if R = [] then false else if anyP (bad1 bs R) [] (rng 0 (R.length : Int)) then false else decide (0 < gsum bs R)) := by
  unfold m__law_ring
  rw [whole_list_ok hR]
  simp only [bok, orM_ok, Bool.not_true, Bool.false_or]
  by_cases hne : R = []
  · subst hne; rfl
  rw [if_neg hne]
  have hpos : 0 < R.length := by cases R with
    | nil => exact absurd rfl hne
    | cons _ _ => simp
  rw [decide_eq_false (show ¬ (R.length : Int) = 0 by omega)]
  simp only [Bool.false_eq_true, if_false]
  rw [guardR_ok (inRange_of (by omega) (by omega))]
  simp only [bok]
  have key := forC_pre (B' := Empty) (R := Bool) (f := fun (r4 : Int × List Int) at'5 => (Res.bind (orM (Res.bind (idxM R at'5) fun x6 => Res.ok (decide (x6 < 0))) (Res.bind (idxM R at'5) fun x8 => Res.ok (decide ((bs.length : Int) ≤ x8)))) fun k25 => if k25 then liftC (Res.ok (Ctl.rt false)) else
      Res.bind (Res.bind (idxM R at'5) fun y12 => idxM bs y12) fun bound10 => Res.bind (idxM R 0) fun after13 => Res.bind (if decide ((at'5 + 1) < (R.length : Int)) then (Res.bind (idxM R (at'5 + 1)) fun after15 => Res.ok after15) else Res.ok after13) fun r14 =>
      Res.bind (orM (Res.ok (decide (r14 < 0))) (orM (Res.ok (decide ((bs.length : Int) ≤ r14))) (orM (Res.bind (Res.bind (idxM bs r14) fun x16 => Res.ok x16.a) fun x17 => Res.ok (!decide (x17 = bound10.b))) (Res.ok (decide (bound10.a ∈ r4.2)))))) fun k24 => if k24 then liftC (Res.ok (Ctl.rt false)) else
      Res.bind (appM r4.2 bound10.a) fun seen21 => Res.ok (Ctl.nx (r4.1 + bound10.c, seen21))))
    (g := fun d => (gsum bs (R.take d.length), ups bs (R.take d.length))) (p := bad1 bs R) (v := false) (xs := rng 0 (R.length : Int)) (done := []) (fun d x r e => by
      obtain ⟨hx, hd⟩ := rng_pre e
      subst hx
      rw [idx0 (by omega) (by omega)]
      simp only [bok, orM_ok]
      unfold bad1
      cases h1 : (decide (at0 R (d.length : Int) < 0) || decide ((bs.length : Int) ≤ at0 R (d.length : Int))) with
      | true => rfl
      | false =>
        simp only [Bool.or_eq_false_iff, decide_eq_false_iff_not] at h1
        simp only [Bool.false_eq_true, if_false, Bool.false_or]
        rw [idx0 (by omega) (by omega), idx0 (xs := R) (by omega) (by omega)]
        simp only [bok]
        have e2 : (if decide ((d.length : Int) + 1 < (R.length : Int)) = true then (Res.bind (idxM R ((d.length : Int) + 1)) fun after15 => Res.ok after15) else Res.ok (at0 R 0)) = .ok (nxt R (d.length : Int)) := by
          unfold nxt
          by_cases h : (d.length : Int) + 1 < (R.length : Int)
          · rw [if_pos (decide_eq_true h), if_pos h, idx0 (by omega) h]
            simp only [bok]
          · rw [if_neg (by simpa using h), if_neg h]
        rw [e2]
        simp only [bok]
        cases h3 : decide (nxt R (d.length : Int) < 0) with
        | true => rfl
        | false =>
          cases h4 : decide ((bs.length : Int) ≤ nxt R (d.length : Int)) with
          | true => rfl
          | false =>
            rw [decide_eq_false_iff_not] at h3 h4
            rw [idx0 (by omega) (by omega)]
            simp only [bok, orM_ok, Bool.false_or]
            cases (!decide ((at0 bs (nxt R (d.length : Int))).a = (at0 bs (at0 R (d.length : Int))).b) || decide ((at0 bs (at0 R (d.length : Int))).a ∈ ups bs (R.take d.length))) with
            | true => rfl
            | false =>
              simp only [Bool.false_eq_true, if_false]
              have hl : (ups bs (R.take d.length)).length ≤ 1000 := by unfold ups; rw [List.length_map, List.length_take]; omega
              rw [apn_ok (by rw [sizeLine_eq]; omega)]
              simp only [bok]
              have e5 : R.take (d ++ [(d.length : Int)]).length = R.take d.length ++ [at0 R (d.length : Int)] := by
                rw [List.length_append]; exact take_snoc hd
              rw [e5]
              unfold ups gsum
              rw [List.map_append, List.map_append, List.sum_append]
              simp)
  have e0 : ((0 : Int), ([] : List Int)) = (gsum bs (R.take ([] : List Int).length), ups bs (R.take ([] : List Int).length)) := by
    show _ = (gsum bs (R.take 0), ups bs (R.take 0))
    rw [List.take_zero]; rfl
  rw [e0]
  refine (congrArg (fun m => thenR m _) key).trans ?_
  rw [thenR_if]
  cases anyP (bad1 bs R) [] (rng 0 (R.length : Int)) with
  | true => rfl
  | false =>
    simp only [Bool.false_eq_true, if_false, List.nil_append, rng_len, List.take_length]
theorem rot_get {l : List Int} {i : Nat} (h : i < l.length) : (rot l)[i]? = l[if i + 1 < l.length then i + 1 else 0]? := by
  unfold rot
  by_cases h1 : i + 1 < l.length
  · rw [if_pos h1, List.getElem?_append_left (by rw [List.length_drop]; omega), List.getElem?_drop, Nat.add_comm]
  · rw [if_neg h1, List.getElem?_append_right (by rw [List.length_drop]; omega), List.length_drop, List.getElem?_take]
    rw [show i - (l.length - 1) = 0 by omega, if_pos (by omega)]
theorem at0_get {α : Type} [Inhabited α] {xs : List α} {n : Nat} (h : n < xs.length) : xs[n]? = some (at0 xs (n : Int)) := by
  rw [List.getElem?_eq_getElem h, at0_nat h]
theorem nxt_nat {R : List Int} {i : Nat} (h : i < R.length) : nxt R (i : Int) = at0 R ((if i + 1 < R.length then i + 1 else 0 : Nat) : Int) := by
  unfold nxt
  by_cases h1 : i + 1 < R.length
  · rw [if_pos (by omega), if_pos h1]; rfl
  · rw [if_neg (by omega), if_neg h1]; rfl
theorem bad_iff {bs : List B} {R : List Int} (hne : R ≠ []) : (anyP (bad1 bs R) [] (rng 0 (R.length : Int)) = false) ↔ (∀ x ∈ R, 0 ≤ x ∧ x < bs.length) ∧ lows bs R = rot (ups bs R) ∧ (ups bs R).Nodup := by
  have hpos : 0 < R.length := by cases R with
    | nil => exact absurd rfl hne
    | cons _ _ => simp
  have hul : (ups bs R).length = R.length := List.length_map ..
  have hll : (lows bs R).length = R.length := List.length_map ..
  have hu : ∀ i : Nat, i < R.length → (ups bs R)[i]? = some (at0 bs (at0 R (i : Int))).a := fun i hi => by
    unfold ups; rw [List.getElem?_map, at0_get hi]; rfl
  have hlo : ∀ i : Nat, i < R.length → (lows bs R)[i]? = some (at0 bs (at0 R (i : Int))).b := fun i hi => by
    unfold lows; rw [List.getElem?_map, at0_get hi]; rfl
  have step1 : (anyP (bad1 bs R) [] (rng 0 (R.length : Int)) = false) ↔ ∀ i : Nat, i < R.length → bad1 bs R ((rng 0 (R.length : Int)).take i) (i : Int) = false := by
    rw [anyP_false]
    constructor
    · intro h i hi
      have hi' : i < (rng 0 (R.length : Int)).length := by rw [rng_len]; exact hi
      refine h _ _ ((rng 0 (R.length : Int)).drop (i + 1)) ?_ (by simp)
      rw [List.nil_append]
      conv => lhs; rw [← List.take_append_drop i (rng 0 (R.length : Int))]
      rw [List.drop_eq_getElem_cons hi', rng_at hi']
    · intro h d x r e _
      obtain ⟨hx, hd⟩ := rng_pre e
      subst hx
      have := h d.length hd
      have hlen : ((rng 0 (R.length : Int)).take d.length).length = d.length := by rw [List.length_take, rng_len]; omega
      unfold bad1 at this ⊢
      rw [hlen] at this
      exact this
  have hb : ∀ i : Nat, i < R.length → (bad1 bs R ((rng 0 (R.length : Int)).take i) (i : Int) = false ↔ (0 ≤ at0 R (i : Int) ∧ at0 R (i : Int) < bs.length) ∧ (0 ≤ nxt R (i : Int) ∧ nxt R (i : Int) < bs.length) ∧ (at0 bs (nxt R (i : Int))).a = (at0 bs (at0 R (i : Int))).b ∧ (at0 bs (at0 R (i : Int))).a ∉ ups bs (R.take i)) := fun i hi => by
    have hlen : ((rng 0 (R.length : Int)).take i).length = i := by rw [List.length_take, rng_len]; omega
    unfold bad1
    rw [hlen]
    simp only [Bool.or_eq_false_iff, decide_eq_false_iff_not, Bool.not_eq_false', decide_eq_true_eq]
    constructor
    · rintro ⟨⟨a1, a2⟩, a3, a4, a5, a6⟩
      exact ⟨⟨by omega, by omega⟩, ⟨by omega, by omega⟩, a5, a6⟩
    · rintro ⟨⟨a1, a2⟩, ⟨a3, a4⟩, a5, a6⟩
      exact ⟨⟨by omega, by omega⟩, by omega, by omega, a5, a6⟩
  rw [step1]
  constructor
  · intro h
    have h' := fun i hi => (hb i hi).mp (h i hi)
    refine ⟨fun x hx => ?_, ?_, ?_⟩
    · obtain ⟨i, hi, e⟩ := List.getElem_of_mem hx
      have := (h' i hi).1
      rw [at0_nat hi, e] at this
      exact this
    · apply List.ext_getElem?
      intro i
      by_cases hi : i < R.length
      · rw [hlo i hi, rot_get (by omega), hul]
        have hj : (if i + 1 < R.length then i + 1 else 0) < R.length := by split <;> omega
        rw [hu _ hj, ← nxt_nat hi, (h' i hi).2.2.1]
      · rw [List.getElem?_eq_none (by omega), List.getElem?_eq_none (by rw [rot_len]; omega)]
    · rw [List.nodup_iff_pairwise_ne, List.pairwise_iff_getElem]
      intro i j hi hj hij e
      have hj' : j < R.length := by omega
      refine (h' j hj').2.2.2 ?_
      have e1 := hu j hj'
      rw [List.getElem?_eq_getElem hj] at e1
      have e1' := Option.some.inj e1
      have e2 := hu i (by omega)
      rw [List.getElem?_eq_getElem hi] at e2
      rw [← e1', ← e, Option.some.inj e2, at0_nat (show i < R.length by omega)]
      unfold ups
      refine List.mem_map.mpr ⟨R[i]'(by omega), ?_, rfl⟩
      exact List.mem_take_iff_getElem.mpr ⟨i, by omega, rfl⟩
  · rintro ⟨h1, h2, h3⟩ i hi
    rw [hb i hi]
    have hj : (if i + 1 < R.length then i + 1 else 0) < R.length := by split <;> omega
    have ha := fun k (hk : k < R.length) => h1 _ (at0_mem (xs := R) (i := (k : Int)) (by omega) (by omega))
    refine ⟨ha i hi, by rw [nxt_nat hi]; exact ha _ hj, ?_, fun hm => ?_⟩
    · have e1 := hlo i hi
      rw [h2, rot_get (by omega), hul, hu _ hj, ← nxt_nat hi] at e1
      exact Option.some.inj e1
    · unfold ups at hm
      obtain ⟨x, hx, ex⟩ := List.mem_map.mp hm
      obtain ⟨k, hk, ek⟩ := List.mem_take_iff_getElem.mp hx
      have hki : k < i := by omega
      rw [List.nodup_iff_pairwise_ne, List.pairwise_iff_getElem] at h3
      refine h3 k i (by omega) (by omega) hki ?_
      have e1 := hu i hi
      have e2 := hu k (by omega)
      rw [List.getElem?_eq_getElem (by omega)] at e1 e2
      rw [Option.some.inj e1, Option.some.inj e2, at0_nat (by omega), ek, ex]
theorem law_ring_ok {bs : List B} {R : List Int} (hb : bs.length ≤ 1000) (hR : R.length ≤ 1000) : m__law_ring bs R = .ok (isr bs R) := by
  rw [law_ring_eq hb hR]
  congr 1
  by_cases hne : R = []
  · rw [if_pos hne, isr_f fun h => h.ne hne]
  rw [if_neg hne]
  have hi := bad_iff (bs := bs) hne
  cases h : anyP (bad1 bs R) [] (rng 0 (R.length : Int)) with
  | true =>
    rw [if_pos rfl, isr_f fun z => ?_]
    have := hi.mpr ⟨z.ok, z.rt, z.nd⟩
    rw [h] at this
    cases this
  | false =>
    simp only [Bool.false_eq_true, if_false]
    obtain ⟨h1, h2, h3⟩ := hi.mp h
    by_cases h5 : 0 < gsum bs R
    · rw [decide_eq_true h5, isr_t ⟨hne, h1, h2, h3, h5⟩]
    · rw [decide_eq_false h5, isr_f fun z => h5 z.pos]
/-! ### rounds -/
def viol (ns : List Int) (b : B) : Prop := at0 ns b.a < at0 ns b.b + b.c
instance (ns : List Int) (b : B) : Decidable (viol ns b) := by unfold viol; infer_instance
def stepN (ns : List Int) (b : B) : List Int := if viol ns b then ns.set b.a.toNat (at0 ns b.b + b.c) else ns
def stable (bs : List B) (ns : List Int) : Prop := ∀ b ∈ bs, ¬ viol ns b
instance (bs : List B) (ns : List Int) : Decidable (stable bs ns) := by unfold stable; infer_instance
def rnd (bs : List B) (ns : List Int) : List Int := bs.foldl stepN ns
def longest (bs : List B) : Nat → List Int → Option (List Int)
  | 0, _ => none
  | f + 1, ns => if stable bs ns then some ns else longest bs f (rnd bs ns)
def Vb (n : Nat) (bs : List B) : Prop := ∀ b ∈ bs, (0 ≤ b.a ∧ b.a < n) ∧ (0 ≤ b.b ∧ b.b < n)
theorem at0_set {α : Type} [Inhabited α] {ns : List α} {i j : Int} {v : α} (hi : 0 ≤ i) (hil : i < ns.length) (hj : 0 ≤ j) : at0 (ns.set i.toNat v) j = if j = i then v else at0 ns j := by
  unfold at0
  rw [List.getD_eq_getElem?_getD, List.getD_eq_getElem?_getD, List.getElem?_set]
  by_cases h : j = i
  · subst h
    rw [if_pos rfl, if_pos rfl, if_pos (by omega)]
    rfl
  · rw [if_neg h, if_neg (by omega)]
theorem stable_rnd {bs : List B} {ns : List Int} (h : stable bs ns) : rnd bs ns = ns := by
  unfold rnd
  induction bs with
  | nil => rfl
  | cons b r ih =>
    have e : stepN ns b = ns := if_neg (h b List.mem_cons_self)
    rw [List.foldl_cons, e]
    exact ih fun c hc => h c (List.mem_cons_of_mem _ hc)
structure J (n : Nat) (bs : List B) (r p : Nat) (ns : List Int) (ms : List (Option Int)) (rho tau : Int → Nat) (T : Nat) : Prop where
  ln : ns.length = n
  lm : ms.length = n
  mrk : ∀ v m : Int, 0 ≤ v → v < n → at0 ms v = some m → (0 ≤ m ∧ m < bs.length) ∧ (at0 bs m).a = v ∧ at0 ns v ≤ at0 ns (at0 bs m).b + (at0 bs m).c ∧ (at0 ns v = at0 ns (at0 bs m).b + (at0 bs m).c → tau (at0 bs m).b < tau v) ∧ rho v ≤ rho (at0 bs m).b + 1
  has : ∀ v : Int, 0 ≤ v → v < n → 1 ≤ rho v → ∃ m, at0 ms v = some m
  q : ∀ i : Nat, i < bs.length → viol ns (at0 bs (i : Int)) → (if i < p then r else r - 1) ≤ rho (at0 bs (i : Int)).b
  tm : ∀ v, tau v < T
  rm : ∀ v, rho v ≤ r
theorem Vb.at {n : Nat} {bs : List B} (h : Vb n bs) {m : Int} (h0 : 0 ≤ m) (h1 : m < bs.length) : (0 ≤ (at0 bs m).a ∧ (at0 bs m).a < n) ∧ (0 ≤ (at0 bs m).b ∧ (at0 bs m).b < n) := h _ (at0_mem h0 h1)
theorem J.skip {n : Nat} {bs : List B} {r p : Nat} {ns : List Int} {ms : List (Option Int)} {rho tau : Int → Nat} {T : Nat} (h : J n bs r p ns ms rho tau T) (hv : ¬ viol ns (at0 bs (p : Int))) : J n bs r (p + 1) ns ms rho tau T := { h with
  q := fun i hi hvi => by
    have := h.q i hi hvi
    by_cases e : i = p
    · subst e; exact absurd hvi hv
    · by_cases h1 : i < p
      · rw [if_pos (by omega)]; rw [if_pos h1] at this; exact this
      · rw [if_neg (by omega)]; rw [if_neg h1] at this; exact this }
theorem J.next {n : Nat} {bs : List B} {r : Nat} {ns : List Int} {ms : List (Option Int)} {rho tau : Int → Nat} {T : Nat} (h : J n bs r bs.length ns ms rho tau T) : J n bs (r + 1) 0 ns ms rho tau T := { h with
  q := fun i hi hvi => by
    have := h.q i hi hvi
    rw [if_pos hi] at this
    rw [if_neg (by omega)]
    exact this
  rm := fun v => Nat.le_succ_of_le (h.rm v) }
theorem J.step {n : Nat} {bs : List B} {r p : Nat} {ns : List Int} {ms : List (Option Int)} {rho tau : Int → Nat} {T : Nat} (hV : Vb n bs) (hr : 1 ≤ r) (h : J n bs r p ns ms rho tau T) (hp : p < bs.length) (hv : viol ns (at0 bs (p : Int))) :
    J n bs r (p + 1) (ns.set (at0 bs (p : Int)).a.toNat (at0 ns (at0 bs (p : Int)).b + (at0 bs (p : Int)).c)) (ms.set (at0 bs (p : Int)).a.toNat (some (p : Int))) (fun v => if v = (at0 bs (p : Int)).a then r else rho v) (fun v => if v = (at0 bs (p : Int)).a then T else tau v) (T + 1) := by
  have hb := hV.at (m := (p : Int)) (by omega) (by omega)
  have hq := h.q p hp hv
  rw [if_neg (by omega)] at hq
  generalize hbe : at0 bs (p : Int) = b at hb hq hv ⊢
  unfold viol at hv
  have sN : ∀ j, 0 ≤ j → at0 (ns.set b.a.toNat (at0 ns b.b + b.c)) j = if j = b.a then at0 ns b.b + b.c else at0 ns j := fun j hj => at0_set hb.1.1 (by rw [h.ln]; exact hb.1.2) hj
  have sM : ∀ j, 0 ≤ j → at0 (ms.set b.a.toNat (some (p : Int))) j = if j = b.a then some (p : Int) else at0 ms j := fun j hj => at0_set hb.1.1 (by rw [h.lm]; exact hb.1.2) hj
  refine ⟨by rw [List.length_set]; exact h.ln, by rw [List.length_set]; exact h.lm, ?_, ?_, ?_, ?_, ?_⟩
  · intro v m h0 h1 hm
    rw [sM v h0] at hm
    by_cases e : v = b.a
    · rw [if_pos e] at hm
      cases hm
      rw [hbe]
      refine ⟨⟨by omega, by omega⟩, e.symm, ?_, ?_, ?_⟩
      · rw [sN v h0, if_pos e, sN b.b hb.2.1]
        by_cases e2 : b.b = b.a
        · rw [if_pos e2]; have hv2 := hv; rw [e2] at hv2; omega
        · rw [if_neg e2]; omega
      · rw [sN v h0, if_pos e, sN b.b hb.2.1]
        by_cases e2 : b.b = b.a
        · rw [if_pos e2]; have hv2 := hv; rw [e2] at hv2; intro z; omega
        · rw [if_neg e2, if_neg e2, if_pos e]; intro _; exact h.tm b.b
      · show (if v = b.a then r else rho v) ≤ (if b.b = b.a then r else rho b.b) + 1
        rw [if_pos e]
        split <;> omega
    · rw [if_neg e] at hm
      obtain ⟨k1, k2, k3, k4, k5⟩ := h.mrk v m h0 h1 hm
      have kb := hV.at k1.1 k1.2
      refine ⟨k1, k2, ?_, ?_, ?_⟩
      · rw [sN v h0, if_neg e, sN _ kb.2.1]
        by_cases e2 : (at0 bs m).b = b.a
        · rw [if_pos e2]; rw [e2] at k3; omega
        · rw [if_neg e2]; exact k3
      · rw [sN v h0, if_neg e, sN _ kb.2.1]
        by_cases e2 : (at0 bs m).b = b.a
        · rw [if_pos e2]; intro z; rw [e2] at k3; omega
        · rw [if_neg e2, if_neg e2, if_neg e]; exact k4
      · show (if v = b.a then r else rho v) ≤ (if (at0 bs m).b = b.a then r else rho (at0 bs m).b) + 1
        rw [if_neg e]
        have := h.rm v
        split <;> omega
  · intro v h0 h1 hr2
    rw [sM v h0]
    by_cases e : v = b.a
    · rw [if_pos e]; exact ⟨_, rfl⟩
    · rw [if_neg e] at hr2 ⊢
      exact h.has v h0 h1 hr2
  · intro i hi hvi
    show _ ≤ (if (at0 bs (i : Int)).b = b.a then r else rho (at0 bs (i : Int)).b)
    have kb := hV.at (m := (i : Int)) (by omega) (by omega)
    by_cases e2 : (at0 bs (i : Int)).b = b.a
    · rw [if_pos e2]; split <;> omega
    · rw [if_neg e2]
      unfold viol at hvi
      rw [sN _ kb.1.1, sN _ kb.2.1, if_neg e2] at hvi
      have hvo : viol ns (at0 bs (i : Int)) := by
        unfold viol
        by_cases e3 : (at0 bs (i : Int)).a = b.a
        · rw [if_pos e3] at hvi; rw [e3]; omega
        · rw [if_neg e3] at hvi; exact hvi
      have hne : i ≠ p := fun z => by
        subst z
        rw [hbe] at hvi e2
        rw [if_pos rfl] at hvi
        omega
      have := h.q i hi hvo
      by_cases h1 : i < p
      · rw [if_pos h1] at this; rw [if_pos (by omega)]; exact this
      · rw [if_neg h1] at this; rw [if_neg (by omega)]; exact this
  · intro v
    show (if v = b.a then T else tau v) < T + 1
    have := h.tm v
    split <;> omega
  · intro v
    show (if v = b.a then r else rho v) ≤ r
    have := h.rm v
    split <;> omega
def G (n : Nat) (bs : List B) (r p : Nat) (ns : List Int) (ms : List (Option Int)) (ch : Option Int) : Prop := ∃ rho tau T, J n bs r p ns ms rho tau T ∧ ∀ u, ch = some u → rho u = r ∧ 0 ≤ u ∧ u < n
theorem enum_pre {α : Type} [Inhabited α] {xs : List α} {d r : List (Int × α)} {x : Int × α} (e : [] ++ enumL xs = d ++ x :: r) : x = ((d.length : Int), at0 xs (d.length : Int)) ∧ d.length < xs.length := by
  have hl := congrArg List.length e
  rw [List.nil_append, enumL_length, List.length_append, List.length_cons] at hl
  have h2 : (enumL xs)[d.length]? = some x := by
    have : ([] ++ enumL xs)[d.length]? = (d ++ x :: r)[d.length]? := by rw [e]
    rw [List.nil_append, List.getElem?_append_right (Nat.le_refl _), Nat.sub_self, List.getElem?_cons_zero] at this
    exact this
  obtain ⟨h3, h4⟩ := enumL_get h2
  have hd : d.length < xs.length := by omega
  rw [at0_get hd] at h4
  exact ⟨Prod.ext h3 (Option.some.inj h4).symm, hd⟩
theorem round_ok {n : Nat} {bs : List B} {r : Nat} {ns : List Int} {ms : List (Option Int)} (hV : Vb n bs) (hr : 1 ≤ r) (h : G n bs r 0 ns ms none) :
    Ok (m__round ns ms bs) fun y => y.2.1 = rnd bs ns ∧ (y.1 = none ↔ stable bs ns) ∧ G n bs r bs.length y.2.1 y.2.2 y.1 := by
  unfold m__round
  simp only [bok]
  refine wp (P := fun s : List Int × List (Option Int) × Option Int => s.1 = rnd bs ns ∧ (s.2.2 = none ↔ stable bs ns) ∧ G n bs r bs.length s.1 s.2.1 s.2.2) ?_ fun s hs => hs
  refine (forR_wp (I := fun d (s : List Int × List (Option Int) × Option Int) => s.1 = (bs.take d.length).foldl stepN ns ∧ (s.2.2 = none → s.1 = ns ∧ ∀ i : Nat, i < d.length → ¬ viol ns (at0 bs (i : Int))) ∧ (s.2.2 ≠ none → ¬ stable bs ns) ∧ G n bs r d.length s.1 s.2.1 s.2.2) (done := []) ⟨rfl, fun _ => ⟨rfl, fun i hi => absurd hi (by simp)⟩, fun z => absurd rfl z, h⟩ ?_).mono ?_
  · rintro d x t ⟨ns1, ms1, ch⟩ e ⟨h1, h2, h3, rho, tau, T, h4, h5⟩
    obtain ⟨hx, hd⟩ := enum_pre e
    subst hx
    dsimp only at h1 h2 h3 h4 h5 ⊢
    have hb := hV.at (m := (d.length : Int)) (by omega) (by omega)
    have etake : bs.take (d.length + 1) = bs.take d.length ++ [at0 bs (d.length : Int)] := by
      rw [List.take_add_one, at0_get hd]; rfl
    have elen : ∀ y : Int × B, (d ++ [y]).length = d.length + 1 := fun y => by simp
    rw [idx0 hb.1.1 (by rw [h4.ln]; exact hb.1.2), idx0 hb.2.1 (by rw [h4.ln]; exact hb.2.2)]
    simp only [bok]
    by_cases hv : viol ns1 (at0 bs (d.length : Int))
    · rw [if_pos (decide_eq_true (show at0 ns1 (at0 bs (d.length : Int)).a < at0 ns1 (at0 bs (d.length : Int)).b + (at0 bs (d.length : Int)).c from hv))]
      rw [setM_ok hb.1.1 (by rw [h4.ln]; exact hb.1.2)]
      simp only [bok]
      rw [setM_ok hb.1.1 (by rw [h4.lm]; exact hb.1.2)]
      simp only [bok]
      refine ⟨?_, fun z => (Option.some_ne_none _ z).elim, fun _ => ?_, ?_⟩
      · rw [elen, etake, List.foldl_append, ← h1]
        exact (if_pos hv).symm
      · cases ch with
        | none =>
          intro st
          have e1 := (h2 rfl).1
          rw [e1] at hv
          exact st _ (at0_mem (by omega) (by omega)) hv
        | some u => exact h3 (fun z => nomatch z)
      · rw [elen]
        exact ⟨_, _, _, h4.step hV hr hd hv, fun u hu => by cases hu; exact ⟨if_pos rfl, hb.1.1, hb.1.2⟩⟩
    · rw [if_neg (by simpa [viol] using hv)]
      refine ⟨?_, fun z => ?_, h3, ?_⟩
      · rw [elen, etake, List.foldl_append, ← h1]
        exact (if_neg hv).symm
      · obtain ⟨e1, e2⟩ := h2 z
        refine ⟨e1, fun i hi => ?_⟩
        rw [elen] at hi
        by_cases hid : i = d.length
        · subst hid; rw [← e1]; exact hv
        · exact e2 i (by omega)
      · rw [elen]
        exact ⟨rho, tau, T, h4.skip hv, h5⟩
  · rintro ⟨ns1, ms1, ch⟩ ⟨h1, h2, h3, h4⟩
    have el : ([] ++ enumL bs).length = bs.length := by rw [List.nil_append, enumL_length]
    rw [el] at h1 h2 h4
    rw [List.take_length] at h1
    refine ⟨h1, ⟨fun z b hb => ?_, fun z => ?_⟩, h4⟩
    · obtain ⟨i, hi, e⟩ := List.getElem_of_mem hb
      have := (h2 z).2 i hi
      rw [at0_nat hi, e] at this
      exact this
    · cases hc : ch with
      | none => rfl
      | some u => exact absurd z (h3 (by show ch ≠ none; rw [hc]; exact fun z => nomatch z))
/-! ### the whole runs -/
theorem qok {α : Type} (a : α) : (Res.ok a).quiet = .ok a := by
  have h : ∀ m : Res α, m = .ok a → m.quiet = .ok a := by intro m h; subst h; rfl
  exact h _ rfl
theorem okq {α : Type} {m : Res α} {Q : α → Prop} (h : Ok m Q) : Ok m.quiet Q := by
  cases m with
  | ok a => exact h
  | err e => exact h
  | bad => exact h
theorem G.next {n : Nat} {bs : List B} {r : Nat} {ns : List Int} {ms : List (Option Int)} {ch : Option Int} (h : G n bs r bs.length ns ms ch) : G n bs (r + 1) 0 ns ms none := by
  obtain ⟨rho, tau, T, h1, _⟩ := h
  exact ⟨rho, tau, T, h1.next, fun u hu => nomatch hu⟩
theorem run_ok {n : Nat} {bs : List B} (hV : Vb n bs) {f : List Int × List (Option Int) × Option Int → Int → Res (Ctl (List Int × List (Option Int) × Option Int) (List Int × List (Option Int) × Option Int) (Str × List Int))}
    (hf : ∀ (ns : List Int) (ms : List (Option Int)) (ch : Option Int) (x : Int), f (ns, ms, ch) x = Res.bind (m__round ns ms bs).quiet fun y7 => if y7.1.isNone then .ok (.bk (y7.2.1, y7.2.2, y7.1)) else .ok (.nx (y7.2.1, y7.2.2, y7.1))) :
    ∀ (L : List Int) (r : Nat) (ns : List Int) (ms : List (Option Int)) (ch : Option Int), G n bs r bs.length ns ms ch → L.length + r = n → (L = [] → ch = none → n = 0) →
    Ok (forC f L (ns, ms, ch) : Res (Ctl (List Int × List (Option Int) × Option Int) Empty (Str × List Int)))
      fun c => ∃ s, c = .nx s ∧ s.1.length = n ∧ ((s.2.2 = none ∧ longest bs (L.length + 1) ns = some s.1) ∨ (∃ u, s.2.2 = some u ∧ G n bs n bs.length s.1 s.2.1 (some u) ∧ longest bs (L.length + 1) ns = longest bs 1 s.1)) := by
  intro L
  induction L with
  | nil =>
    intro r ns ms ch h hl h0
    have hlen : ns.length = n := by obtain ⟨_, _, _, j, _⟩ := h; exact j.ln
    refine ⟨_, rfl, hlen, ?_⟩
    cases ch with
    | none =>
      refine .inl ⟨rfl, ?_⟩
      have hn := h0 rfl rfl
      have hst : stable bs ns := fun b hb => by have := hV b hb; omega
      exact if_pos hst
    | some u =>
      have hr : r = n := by simpa using hl
      subst hr
      exact .inr ⟨u, rfl, h, rfl⟩
  | cons x L ih =>
    intro r ns ms ch h hl h0
    show Post ((f (ns, ms, ch) x).bind _) _ _
    have hr := round_ok hV (show 1 ≤ r + 1 by omega) h.next
    obtain ⟨y, hy⟩ : ∃ y, m__round ns ms bs = .ok y := by
      cases e : m__round ns ms bs with
      | ok y => exact ⟨y, rfl⟩
      | err z => rw [e] at hr; exact hr.elim
      | bad => rw [e] at hr; exact hr.elim
    rw [hy] at hr
    obtain ⟨h1, h2, h3⟩ := hr
    rw [hf, hy, qok]
    simp only [bok]
    obtain ⟨ch', ns', ms'⟩ := y
    dsimp only at h1 h2 h3 ⊢
    cases ch' with
    | none =>
      have hst := h2.mp rfl
      have hlen : ns'.length = n := by obtain ⟨_, _, _, j, _⟩ := h3; exact j.ln
      refine ⟨_, rfl, hlen, .inl ⟨rfl, ?_⟩⟩
      show longest bs (L.length + 1 + 1) ns = some ns'
      rw [h1, stable_rnd hst]
      exact if_pos hst
    | some u =>
      have hst : ¬ stable bs ns := fun z => by have := h2.mpr z; cases this
      have step := ih (r + 1) ns' ms' (some u) h3 (by simp only [List.length_cons] at hl; omega) (fun _ z => nomatch z)
      refine Post.mono step fun c hc => ?_
      obtain ⟨s, e, hs0, hs⟩ := hc
      refine ⟨s, e, hs0, ?_⟩
      have e2 : longest bs ((x :: L).length + 1) ns = longest bs (L.length + 1) ns' := by
        rw [h1]
        exact if_neg hst
      rw [e2]
      exact hs
theorem step_len {ns : List Int} {b : B} : (stepN ns b).length = ns.length := by
  unfold stepN
  split
  · rw [List.length_set]
  · rfl
theorem rnd_len {bs : List B} {ns : List Int} : (rnd bs ns).length = ns.length := by
  unfold rnd
  induction bs generalizing ns with
  | nil => rfl
  | cons b r ih => rw [List.foldl_cons, ih, step_len]
theorem lround_ok {n : Nat} {bs : List B} (hV : Vb n bs) {ns : List Int} (hn : ns.length = n) {f : List Int × Bool → B → Res (List Int × Bool)} (hf : ∀ (l : List Int) (c : Bool) (b : B), l.length = n → b ∈ bs → f (l, c) b = .ok (if viol l b then (stepN l b, true) else (l, c))) :
    Ok (forR f bs (ns, false)) fun s => s.1 = rnd bs ns ∧ (s.2 = false ↔ stable bs ns) := by
  refine (forR_wp (I := fun d (s : List Int × Bool) => s.1 = d.foldl stepN ns ∧ (s.2 = false → s.1 = ns ∧ ∀ b ∈ d, ¬ viol ns b) ∧ (s.2 = true → ¬ stable bs ns)) (done := []) ⟨rfl, fun _ => ⟨rfl, fun b hb => nomatch hb⟩, fun z => Bool.noConfusion z⟩ ?_).mono ?_
  · rintro d b t ⟨ns1, ch⟩ e ⟨h1, h2, h3⟩
    dsimp only at h1 h2 h3 ⊢
    have e' : bs = d ++ b :: t := e
    have hbm : b ∈ bs := by rw [e']; simp
    have hb := hV b hbm
    have hlen : ns1.length = n := by
      rw [h1]
      have : ∀ (d : List B) (ns : List Int), (d.foldl stepN ns).length = ns.length := fun d => by
        induction d with
        | nil => intro ns; rfl
        | cons b r ih => intro ns; rw [List.foldl_cons, ih, step_len]
      rw [this]; exact hn
    rw [hf ns1 ch b hlen hbm]
    by_cases hv : viol ns1 b
    · rw [if_pos hv]
      refine ⟨?_, fun z => (Bool.noConfusion z), fun _ => ?_⟩
      · rw [List.foldl_append, ← h1]
        rfl
      · cases ch with
        | false =>
          intro st
          rw [(h2 rfl).1] at hv
          exact st b hbm hv
        | true => exact h3 rfl
    · rw [if_neg hv]
      refine ⟨?_, fun z => ?_, h3⟩
      · rw [List.foldl_append, ← h1]
        exact (if_neg hv).symm
      · obtain ⟨e1, e2⟩ := h2 z
        refine ⟨e1, fun c hc => ?_⟩
        rcases List.mem_append.mp hc with hc | hc
        · exact e2 c hc
        · cases List.mem_singleton.mp hc
          rw [← e1]; exact hv
  · rintro ⟨ns1, ch⟩ ⟨h1, h2, h3⟩
    refine ⟨h1, fun z => (h2 z).2, fun z => ?_⟩
    cases ch with
    | false => rfl
    | true => exact absurd z (h3 rfl)
theorem longest_fin {n : Nat} {bs : List B} {f : List Int → Int → Res (Ctl (List Int) (List Int) (Option (List Int)))} {k : List Int → Res (Option (List Int))} (hf : ∀ (ns : List Int) (x : Int), ns.length = n → f ns x = .ok (if stable bs ns then .rt (some ns) else .nx (rnd bs ns))) (hk : ∀ s, k s = .ok none) :
    ∀ (L : List Int) (ns : List Int), ns.length = n → thenR (forC f L ns) k = .ok (longest bs L.length ns) := by
  intro L
  induction L with
  | nil => intro ns _; exact hk ns
  | cons x L ih =>
    intro ns hl
    show thenR ((f ns x).bind _) k = _
    rw [hf ns x hl]
    by_cases hst : stable bs ns
    · rw [if_pos hst]
      exact congrArg Res.ok (show _ = longest bs (L.length + 1) ns from (if_pos hst).symm)
    · rw [if_neg hst]
      show thenR (forC f L (rnd bs ns)) k = _
      rw [ih (rnd bs ns) (by rw [rnd_len]; exact hl)]
      exact congrArg Res.ok (show _ = longest bs (L.length + 1) ns from (if_neg hst).symm)
theorem longest_ok {n : Nat} {bs : List B} (hV : Vb n bs) (hn : n ≤ 1000) : m__law_longest (n : Int) bs = .ok (longest bs (n + 1) (List.replicate n 0)) := by
  unfold m__law_longest
  rw [guardR_ok (inRange_of (by omega) (by omega)), guardR_ok (inRange_of (by omega) (by omega))]
  simp only [bok]
  rw [lcX_ok (g := fun _ => 0) (by rw [rng_len, sizeLine_eq]; omega) fun _ _ => rfl]
  simp only [bok]
  have e0 : ((rng 0 (n : Int)).map fun _ => (0 : Int)) = List.replicate n 0 := by
    rw [List.map_const', rng_len]
  rw [e0]
  have hl : (rng 0 ((n : Int) + 1)).length = n + 1 := by rw [rng_length]; omega
  rw [← hl]
  refine longest_fin (n := n) (bs := bs) ?_ (fun _ => rfl) _ _ (by simp)
  intro ns x hns
  apply ok_eq
  refine wp (lround_ok hV hns ?_) ?_
  · intro l c b hlen hb
    have hb := hV b hb
    dsimp only
    rw [idx0 hb.1.1 (by rw [hlen]; exact hb.1.2), idx0 hb.2.1 (by rw [hlen]; exact hb.2.2)]
    simp only [bok]
    by_cases hv : viol l b
    · rw [if_pos (decide_eq_true (show at0 l b.a < at0 l b.b + b.c from hv)), if_pos hv, setM_ok hb.1.1 (by rw [hlen]; exact hb.1.2)]
      simp only [bok]
      unfold stepN
      rw [if_pos hv]
    · rw [if_neg (by simpa [viol] using hv), if_neg hv]
      simp only [bok]
  · rintro ⟨l, c⟩ ⟨h1, h2⟩
    dsimp only at h1 h2 ⊢
    cases c with
    | false =>
      have hst := h2.mp rfl
      rw [if_pos hst, h1, stable_rnd hst]
      rfl
    | true =>
      have hst : ¬ stable bs ns := fun z => by have := h2.mpr z; cases this
      rw [if_neg hst, h1]
      rfl
/-! ### the ring that the marks show -/
theorem nodup_len : ∀ (n : Nat) (l : List Int), l.Nodup → (∀ x ∈ l, 0 ≤ x ∧ x < n) → l.length ≤ n := by
  intro n
  induction n with
  | zero =>
    intro l _ h
    cases l with
    | nil => simp
    | cons x r => have := h x List.mem_cons_self; omega
  | succ n ih =>
    intro l hn h
    have h1 := ih (l.erase (n : Int)) (hn.erase _) fun x hx => by
      have h2 := (hn.mem_erase_iff).mp hx
      have := h x h2.2
      have := h2.1
      omega
    by_cases hm : (n : Int) ∈ l
    · rw [List.length_erase_of_mem hm] at h1; omega
    · rw [List.erase_of_not_mem hm] at h1; omega
theorem whileM_wp {S : Type} {c : S → Res Bool} {f : S → Res S} {I : S → Prop} {μ : S → Nat} {Q : S → Prop} (h : ∀ s, I s → Ok (c s) fun b => if b then Ok (f s) fun s' => I s' ∧ μ s' < μ s else Q s) : ∀ (N : Nat) (s : S), I s → μ s < N → Ok (whileM c f N s) Q := by
  intro N
  induction N with
  | zero => intro s _ hm; omega
  | succ N ih =>
    intro s hs hm
    show Post ((c s).bind _) _ _
    refine wp (h s hs) fun b hb => ?_
    cases b with
    | true =>
      rw [if_pos rfl] at hb ⊢
      exact wp hb fun s' hs' => ih s' hs'.1 (by omega)
    | false =>
      rw [if_neg (by simp)] at hb ⊢
      exact hb
def mark (ms : List (Option Int)) (v : Int) : Int := (at0 ms v).getD 0
def low1 (bs : List B) (ms : List (Option Int)) (v : Int) : Int := (at0 bs (mark ms v)).b
theorem sum_le {S : List Int} {f g : Int → Int} (h : ∀ v ∈ S, f v ≤ g v) : (S.map f).sum ≤ (S.map g).sum := by
  induction S with
  | nil => exact Int.le_refl _
  | cons x r ih =>
    have h1 := h x List.mem_cons_self
    have h2 := ih fun v hv => h v (List.mem_cons_of_mem _ hv)
    simp only [List.map_cons, List.sum_cons]
    omega
theorem sum_lt {S : List Int} {f g : Int → Int} (hne : S ≠ []) (h : ∀ v ∈ S, f v < g v) : (S.map f).sum < (S.map g).sum := by
  cases S with
  | nil => exact absurd rfl hne
  | cons x r =>
    have h1 := h x List.mem_cons_self
    have h2 := sum_le (S := r) (f := f) (g := g) fun v hv => Int.le_of_lt (h v (List.mem_cons_of_mem _ hv))
    simp only [List.map_cons, List.sum_cons]
    omega
theorem sum_add {S : List Int} {f g : Int → Int} : (S.map fun v => f v + g v).sum = (S.map f).sum + (S.map g).sum := by
  induction S with
  | nil => rfl
  | cons x r ih => simp only [List.map_cons, List.sum_cons, ih]; omega
theorem sum_rot (l : List Int) : (rot l).sum = l.sum := by
  unfold rot
  rw [List.sum_append]
  conv => rhs; rw [← List.take_append_drop 1 l, List.sum_append]
  omega
theorem rot_map {α : Type} (l : List Int) (f : Int → Int) : rot (l.map f) = (rot l).map f := by
  unfold rot
  rw [List.map_append, List.map_drop, List.map_take]
theorem sum_eq_all {S : List Int} {f g : Int → Int} (h : ∀ v ∈ S, f v ≤ g v) (e : (S.map g).sum ≤ (S.map f).sum) : ∀ v ∈ S, f v = g v := by
  induction S with
  | nil => intro v hv; cases hv
  | cons x r ih =>
    have h1 := h x List.mem_cons_self
    have h2 := sum_le (S := r) (f := f) (g := g) fun v hv => h v (List.mem_cons_of_mem _ hv)
    simp only [List.map_cons, List.sum_cons] at e
    intro v hv
    rcases List.mem_cons.mp hv with rfl | hv
    · omega
    · exact ih (fun v hv => h v (List.mem_cons_of_mem _ hv)) (by omega) v hv
/-- a closed chain of marks is a ring -/
theorem ring_of {n : Nat} {bs : List B} {r p : Nat} {ns : List Int} {ms : List (Option Int)} {rho tau : Int → Nat} {T : Nat} (h : J n bs r p ns ms rho tau T) {S : List Int} (hne : S ≠ []) (hS : ∀ v ∈ S, (0 ≤ v ∧ v < n) ∧ ∃ m, at0 ms v = some m) (nd : S.Nodup) (hc : S.map (low1 bs ms) = rot S) : RingP bs (S.map (mark ms)) := by
  have hm : ∀ v ∈ S, (0 ≤ mark ms v ∧ mark ms v < bs.length) ∧ (at0 bs (mark ms v)).a = v ∧ at0 ns v ≤ at0 ns (low1 bs ms v) + (at0 bs (mark ms v)).c ∧ (at0 ns v = at0 ns (low1 bs ms v) + (at0 bs (mark ms v)).c → tau (low1 bs ms v) < tau v) := fun v hv => by
    obtain ⟨⟨h0, h1⟩, m, em⟩ := hS v hv
    obtain ⟨k1, k2, k3, k4, k5⟩ := h.mrk v m h0 h1 em
    have e : mark ms v = m := by unfold mark; rw [em]; rfl
    unfold low1
    rw [e]
    exact ⟨k1, k2, k3, k4⟩
  have eu : ups bs (S.map (mark ms)) = S := by
    unfold ups
    rw [List.map_map]
    conv => rhs; rw [← List.map_id S]
    exact List.map_congr_left fun v hv => (hm v hv).2.1
  have el : lows bs (S.map (mark ms)) = S.map (low1 bs ms) := by
    unfold lows
    rw [List.map_map]
    rfl
  have eg : gsum bs (S.map (mark ms)) = (S.map fun v => (at0 bs (mark ms v)).c).sum := by
    unfold gsum
    rw [List.map_map]
    rfl
  refine ⟨fun z => hne (by simpa using z), fun x hx => ?_, ?_, ?_, ?_⟩
  · obtain ⟨v, hv, rfl⟩ := List.mem_map.mp hx
    exact (hm v hv).1
  · rw [el, eu]; exact hc
  · rw [eu]; exact nd
  · rw [eg]
    have ekey : ∀ f : Int → Int, (S.map fun v => f (low1 bs ms v)).sum = (S.map f).sum := fun f => by
      have e1 : (S.map fun v => f (low1 bs ms v)) = (rot S).map f := by rw [← hc, List.map_map]; rfl
      rw [e1, ← rot_map (α := Int), sum_rot]
    have h1 := sum_le (S := S) (f := fun v => at0 ns v) (g := fun v => at0 ns (low1 bs ms v) + (at0 bs (mark ms v)).c) fun v hv => (hm v hv).2.2.1
    rw [sum_add, ekey fun v => at0 ns v] at h1
    by_cases hp : 0 < (S.map fun v => (at0 bs (mark ms v)).c).sum
    · exact hp
    · exfalso
      have h2 := sum_eq_all (S := S) (f := fun v => at0 ns v) (g := fun v => at0 ns (low1 bs ms v) + (at0 bs (mark ms v)).c) (fun v hv => (hm v hv).2.2.1) (by rw [sum_add, ekey fun v => at0 ns v]; omega)
      have h3 := sum_lt (S := S) (f := fun v => (tau (low1 bs ms v) : Int)) (g := fun v => (tau v : Int)) hne fun v hv => by
        have := (hm v hv).2.2.2 (h2 v hv)
        exact Int.ofNat_lt.mpr this
      rw [ekey fun v => (tau v : Int)] at h3
      omega
theorem no_stable {bs : List B} {R : List Int} (h : RingP bs R) (ns : List Int) : ¬ stable bs ns := fun st => by
  have h1 : ∀ x ∈ R, at0 ns (at0 bs x).b + (at0 bs x).c ≤ at0 ns (at0 bs x).a := fun x hx => by
    have := st _ (at0_mem (h.ok x hx).1 (h.ok x hx).2)
    unfold viol at this
    omega
  have h2 := sum_le (S := R) (f := fun x => at0 ns (at0 bs x).b + (at0 bs x).c) (g := fun x => at0 ns (at0 bs x).a) h1
  rw [sum_add] at h2
  have e1 : (R.map fun x => at0 ns (at0 bs x).b).sum = (R.map fun x => at0 ns (at0 bs x).a).sum := by
    have a1 : (R.map fun x => at0 ns (at0 bs x).b) = (lows bs R).map fun v => at0 ns v := by unfold lows; rw [List.map_map]; rfl
    have a2 : (R.map fun x => at0 ns (at0 bs x).a) = (ups bs R).map fun v => at0 ns v := by unfold ups; rw [List.map_map]; rfl
    rw [a1, a2, h.rt, ← rot_map (α := Int), sum_rot]
  have h3 := h.pos
  unfold gsum at h3
  omega
theorem ring_ok {n : Nat} {bs : List B} {ns : List Int} {ms : List (Option Int)} {u : Int} (hV : Vb n bs) (hn : n ≤ 50) (h : G n bs n bs.length ns ms (some u)) : Ok (m__ring ms bs u) fun R => RingP bs R ∧ R.length ≤ n := by
  obtain ⟨rho, tau, T, hJ, hu⟩ := h
  obtain ⟨hru, hu0, hu1⟩ := hu u rfl
  unfold m__ring
  simp only [bok]
  have lowE : ∀ v m, at0 ms v = some m → low1 bs ms v = (at0 bs m).b := fun v m e => by unfold low1 mark; rw [e]; rfl
  refine wp (whileM_wp (I := fun s : List Int × Int => s.1.Nodup ∧ (∀ x ∈ s.1, (0 ≤ x ∧ x < n) ∧ ∃ m, at0 ms x = some m) ∧ (0 ≤ s.2 ∧ s.2 < n) ∧ n ≤ rho s.2 + s.1.length ∧ ∀ i : Nat, i < s.1.length → low1 bs ms (at0 (s.1 ++ [s.2]) (i : Int)) = at0 (s.1 ++ [s.2]) ((i + 1 : Nat) : Int))
    (μ := fun s => n - s.1.length) (Q := fun s : List Int × Int => s.2 ∈ s.1 ∧ s.1.Nodup ∧ (∀ x ∈ s.1, (0 ≤ x ∧ x < n) ∧ ∃ m, at0 ms x = some m) ∧ ∀ i : Nat, i < s.1.length → low1 bs ms (at0 (s.1 ++ [s.2]) (i : Int)) = at0 (s.1 ++ [s.2]) ((i + 1 : Nat) : Int)) ?_ 100 _ ?_ ?_) ?_
  · rintro ⟨seen, at'⟩ ⟨h1, h2, h3, h4, h5⟩
    dsimp only at h1 h2 h3 h4 h5 ⊢
    by_cases hm : at' ∈ seen
    · rw [decide_eq_true hm]
      exact ⟨hm, h1, h2, h5⟩
    · rw [decide_eq_false hm]
      have hnd : (seen ++ [at']).Nodup := by
        rw [List.nodup_append]
        exact ⟨h1, by simp, fun a ha b hb => by rw [List.mem_singleton.mp hb]; exact fun z => hm (z ▸ ha)⟩
      have hlen := nodup_len n (seen ++ [at']) hnd fun x hx => by
        rcases List.mem_append.mp hx with hx | hx
        · exact (h2 x hx).1
        · cases List.mem_singleton.mp hx; exact h3
      have hlen' : seen.length + 1 ≤ n := by simpa using hlen
      obtain ⟨m, em⟩ := hJ.has at' h3.1 h3.2 (by omega)
      obtain ⟨k1, k2, k3, k4, k5⟩ := hJ.mrk at' m h3.1 h3.2 em
      have kb := hV.at k1.1 k1.2
      show Ok _ _
      rw [apn_ok (by rw [sizeLine_eq]; omega)]
      simp only [bok]
      rw [idx0 h3.1 (by rw [hJ.lm]; exact h3.2), em]
      simp only [bok]
      show Ok (Res.bind (Res.bind (idxM bs m) _) _) _
      rw [idx0 k1.1 k1.2]
      simp only [bok]
      refine ⟨⟨hnd, fun x hx => ?_, kb.2, ?_, fun i hi => ?_⟩, ?_⟩
      · rcases List.mem_append.mp hx with hx | hx
        · exact h2 x hx
        · cases List.mem_singleton.mp hx; exact ⟨h3, m, em⟩
      · show n ≤ rho (at0 bs m).b + (seen ++ [at']).length
        rw [List.length_append]
        simp only [List.length_cons, List.length_nil]
        omega
      · have hi' : i < seen.length + 1 := by simpa using hi
        show low1 bs ms (at0 ((seen ++ [at']) ++ [(at0 bs m).b]) (i : Int)) = at0 ((seen ++ [at']) ++ [(at0 bs m).b]) ((i + 1 : Nat) : Int)
        rw [at0_nat (by simp; omega), at0_nat (by simp; omega)]
        rw [List.getElem_append_left (by simp; omega)]
        by_cases hl : i < seen.length
        · rw [List.getElem_append_left (as := seen ++ [at']) (by simp; omega)]
          have := h5 i hl
          rw [at0_nat (by simp; omega), at0_nat (by simp; omega)] at this
          exact this
        · have e : i = seen.length := by omega
          subst e
          rw [List.getElem_append_right (by simp)]
          simp only [List.getElem_append_right (Nat.le_refl seen.length), Nat.sub_self, List.getElem_cons_zero, List.length_append, List.length_cons, List.length_nil]
          refine (lowE at' m em).trans ?_
          rw [List.getElem_append_right (by simp)]
          simp
      · show n - (seen ++ [at']).length < n - seen.length
        rw [List.length_append]
        simp only [List.length_cons, List.length_nil]
        omega
  · exact ⟨List.nodup_nil, fun x hx => absurd (show x ∈ ([] : List Int) from hx) List.not_mem_nil, ⟨hu0, hu1⟩, by show n ≤ rho u + 0; omega, fun i hi => absurd (show i < 0 from hi) (Nat.not_lt_zero i)⟩
  · show n - 0 < 100
    omega
  · rintro ⟨seen, at'⟩ ⟨h1, h2, h3, h5⟩
    dsimp only at h1 h2 h3 h5 ⊢
    have hsl := nodup_len n seen h2 fun x hx => (h3 x hx).1
    obtain ⟨j, hj, hje⟩ : ∃ j, ∃ hj : j < seen.length, seen[j] = at' ∧ seen.findIdx? (fun y => decide (y = at')) = some j := by
      obtain ⟨k, hk, ek⟩ := List.getElem_of_mem h1
      cases hf : seen.findIdx? (fun y => decide (y = at')) with
      | none =>
        have := List.findIdx?_eq_none_iff.mp hf at' h1
        simp at this
      | some j =>
        obtain ⟨g1, g2, g3⟩ := List.findIdx?_eq_some_iff_getElem.mp hf
        exact ⟨j, g1, of_decide_eq_true g2, rfl⟩
    have ei : indexM seen at' = .ok (j : Int) := by unfold indexM; rw [hje.2]
    rw [ei]
    simp only [bok]
    rw [cut_from (by omega) (by omega), Int.toNat_natCast]
    have hmem : ∀ x ∈ seen.drop j, x ∈ seen := fun x hx => List.mem_of_mem_drop hx
    rw [lcX_ok (g := mark ms) (by rw [List.length_drop, sizeLine_eq]; omega) fun x hx => by
      obtain ⟨⟨a0, a1⟩, m, em⟩ := h3 x (hmem x hx)
      rw [idx0 a0 (by rw [hJ.lm]; exact a1), em]
      show Res.ok m = _
      unfold mark
      rw [em]
      rfl]
    refine ⟨ring_of hJ (fun z => ?_) (fun v hv => h3 v (hmem v hv)) (h2.sublist (List.drop_sublist j seen)) ?_, by rw [List.length_map, List.length_drop]; omega⟩
    · have := congrArg List.length z
      rw [List.length_drop] at this
      simp at this
      omega
    · apply List.ext_getElem?
      intro i
      have hdl : (seen.drop j).length = seen.length - j := List.length_drop
      by_cases hi : i < seen.length - j
      · rw [rot_get (by rw [hdl]; exact hi), hdl, List.getElem?_map, List.getElem?_drop, List.getElem?_eq_getElem (show j + i < seen.length by omega)]
        have hs := h5 (j + i) (by omega)
        rw [at0_nat (by simp; omega), at0_nat (by simp; omega), List.getElem_append_left (by omega)] at hs
        show some (low1 bs ms seen[j + i]) = _
        rw [hs]
        by_cases hl : i + 1 < seen.length - j
        · rw [if_pos hl, List.getElem?_drop, List.getElem?_eq_getElem (show j + (i + 1) < seen.length by omega)]
          rw [List.getElem_append_left (by omega)]
          rfl
        · rw [if_neg hl, List.getElem?_drop, List.getElem?_eq_getElem (show j + 0 < seen.length by omega)]
          rw [List.getElem_append_right (by omega)]
          simp only [Nat.add_zero, hje.1]
          congr 1
          rw [List.getElem_singleton]
      · rw [List.getElem?_eq_none (by rw [List.length_map, hdl]; omega), List.getElem?_eq_none (by rw [rot_len, hdl]; omega)]
theorem ok_ex {α : Type} {m : Res α} {P : α → Prop} (h : Ok m P) : ∃ y, m = .ok y ∧ P y := by
  cases m with
  | ok y => exact ⟨y, rfl, h⟩
  | err e => exact h.elim
  | bad => exact h.elim
theorem least_ok {n : Nat} {bs : List B} (hV : Vb n bs) (hn : n ≤ 50) (hb : bs.length ≤ 1000) : ∃ y, m_least_scale (n : Int) bs = .ok y ∧ y.2.length ≤ 50 ∧ ((y.1 = Str.ofString "scale" ∧ longest bs (n + 1) (List.replicate n 0) = some y.2) ∨ (y.1 = Str.ofString "ring" ∧ longest bs (n + 1) (List.replicate n 0) = none ∧ RingP bs y.2)) := by
  apply ok_ex
  unfold m_least_scale
  have e1 : ∀ {α : Type} (x : α), repM [x] (n : Int) = .ok (List.replicate n x) := fun {α} x => by
    unfold repM
    rw [guardR_ok (by
      rw [decide_eq_true (show -(2 ^ 63) ≤ (n : Int) by omega), decide_eq_true (show (n : Int) < 2 ^ 63 by omega), decide_eq_true (show [x].length * (n : Int).toNat ≤ sizeLine by rw [sizeLine_eq]; simp; omega)]
      rfl)]
    congr 1
    rw [Int.toNat_natCast]
    clear hV hn
    induction n with
    | zero => rfl
    | succ k ih => rw [List.replicate_succ, List.replicate_succ, List.flatten_cons, ih]; rfl
  rw [e1, e1]
  simp only [bok]
  rw [guardR_ok (inRange_of (by omega) (by omega))]
  simp only [bok]
  have h0 : G n bs 0 bs.length (List.replicate n 0) (List.replicate n none) none := by
    refine ⟨fun _ => 0, fun _ => 0, 1, ⟨by simp, by simp, fun v m h0 h1 hm => ?_, fun v h0 h1 hr => by omega, fun i hi hv => by split <;> exact Nat.zero_le _, fun _ => Nat.zero_lt_one, fun _ => Nat.le_refl _⟩, fun u hu => nomatch hu⟩
    exfalso
    have : at0 (List.replicate n (none : Option Int)) v = none := at0_all (P := fun z => z = none) (fun x hx => (List.mem_replicate.mp hx).2) rfl v
    rw [this] at hm
    cases hm
  have hl : (rng 0 (n : Int)).length = n := rng_len n
  refine thenR_wp (P := fun s : List Int × List (Option Int) × Option Int => s.1.length = n ∧ ((s.2.2 = none ∧ longest bs (n + 1) (List.replicate n 0) = some s.1) ∨ (∃ u, s.2.2 = some u ∧ G n bs n bs.length s.1 s.2.1 (some u) ∧ longest bs (n + 1) (List.replicate n 0) = longest bs 1 s.1))) ?_ ?_
  · have := run_ok hV (f := fun (r4 : List Int × List (Option Int) × Option Int) (_ : Int) => (Res.bind ((m__round r4.1 r4.2.1 bs).quiet) fun y7 => (if ((y7.1).isNone) then liftC (Res.ok (Ctl.bk (y7.2.1, y7.2.2, y7.1))) else (Res.ok (Ctl.nx (y7.2.1, y7.2.2, y7.1)))))) (fun _ _ _ _ => rfl) (rng 0 (n : Int)) 0 (List.replicate n 0) (List.replicate n none) none h0 (by omega) (fun z _ => by rw [z] at hl; exact hl.symm)
    rw [hl] at this
    exact this
  · rintro ⟨ns, ms, ch⟩ ⟨h1, h2⟩
    dsimp only at h1 h2 ⊢
    rcases h2 with ⟨h3, h4⟩ | ⟨u, h3, h4, h5⟩
    · subst h3
      exact ⟨by show ns.length ≤ 50; omega, .inl ⟨rfl, h4⟩⟩
    · subst h3
      show Ok (Res.bind (Res.bind (Res.ok u) _) _) _
      simp only [bok]
      refine wp (ring_ok hV hn h4) fun R hR => ⟨by show R.length ≤ 50; omega, .inr ⟨rfl, ?_, hR.1⟩⟩
      rw [h5]
      exact if_neg (no_stable hR.1 ns)
theorem judged_ok {bs : List B} {R : List Int} (hb : bs.length ≤ 900) (hR : R.length ≤ 900) (h : RingP bs R) : m__law_judged bs R = .ok true := by
  unfold m__law_judged
  rw [is_ring_ok (by omega) (by omega), isr_t h]
  simp only [bok, Bool.not_true, Bool.false_eq_true, if_false]
  have hpos : 0 < R.length := by cases hr : R with
    | nil => exact absurd hr h.ne
    | cons _ _ => simp
  have c1 := cut_len (xs := R) (a := some 1) (b := none)
  rw [idx0 (by omega) (by omega)]
  simp only [bok]
  rw [cat_ok (by rw [sizeLine_eq]; simp; omega), cat_ok (by rw [sizeLine_eq]; simp; omega), cat_ok (by rw [sizeLine_eq]; simp; omega)]
  simp only [bok]
  rw [forC_look]
  · rfl
  · intro wrong hw
    have hl : wrong.length ≤ 1000 := by
      simp only [List.mem_cons, List.not_mem_nil, or_false] at hw
      rcases hw with rfl | rfl | rfl | rfl | rfl <;> first | omega | (simp; omega) | simp
    rw [is_ring_ok (by omega) hl, law_ring_ok (by omega) hl]
    simp only [bok]
    cases isr bs wrong <;> rfl
theorem draw_ok {xs : List Int} {k c : Int} (h0 : 0 ≤ k) (h1 : k < xs.length) (hc : 0 < c) : Ok ((idxM xs k).bind fun x => modM x c) fun r => 0 ≤ r ∧ r < c := by
  rw [idx0 h0 h1]
  simp only [bok]
  rw [mod_pos hc]
  exact ⟨Int.emod_nonneg _ (by omega), Int.emod_lt_of_pos _ hc⟩
theorem is_ok {xs : List Int} {k c d : Int} (h0 : 0 ≤ k) (h1 : k < xs.length) (hc : 0 < c) : Ok (((idxM xs k).bind fun x => modM x c).bind fun x => Res.ok (decide (x = d))) fun _ => True :=
  wp (draw_ok h0 h1 hc) fun _ _ => True.intro
theorem sub_ok {l : List Int} {w : Int} (hl : l.length ≤ 100000) : Ok (lcX (fun _ => Res.ok true) (fun x => Res.ok (x - w)) l) fun r => r.length = l.length := by
  rw [lcX_ok (g := fun x => x - w) (by rw [sizeLine_eq]; omega) fun x hx => rfl]
  exact List.length_map ..
theorem catP {α : Type} {xs ys : List α} {n : Nat} (h : xs.length + ys.length ≤ n) (hn : n ≤ 100000) : Ok (catM xs ys) fun z => z.length ≤ n := by
  rw [cat_ok (by rw [sizeLine_eq]; omega)]
  show (xs ++ ys).length ≤ n
  rw [List.length_append]
  exact h
theorem drawn_ok (s : Scr) : m__law_drawn_rings s = .ok true := by
  apply ok_eq
  unfold m__law_drawn_rings
  simp only [bok]
  refine wp (many2 (by omega) (by omega) (by omega) (by omega) (by omega) (by omega)) fun picks ⟨hl, hp⟩ => ?_
  refine wp (P := fun r : Int => 1 ≤ r ∧ r ≤ 7) (wp (draw_ok (by omega) (by omega) (by omega)) fun r hr => ⟨by omega, by omega⟩) fun size0 hs0 => ?_
  refine wp (P := fun r : Int => 1 ≤ r ∧ r ≤ 16) (wp (is_ok (by omega) (by omega) (by omega)) fun k _ => ?_) fun size hs => ?_
  · cases k
    · exact ⟨by omega, by omega⟩
    · exact (by decide : (1 : Int) ≤ 16 ∧ (16 : Int) ≤ 16)
  refine wp (many2 (by omega) (by omega) (by omega) (by omega) (by omega) (by omega)) fun keys hkeys => ?_
  refine wp (P := fun l : List Int => l.length = 16) ?_ fun order horder => ?_
  · rw [guardR_ok (inRange_of (by omega) (by omega))]
    simp only [bok]
    rw [lcX_ok (g := fun i => (at0 keys i, i)) (by rw [rng_length, sizeLine_eq]; omega) fun i hi => by
      have := rng_mem hi
      rw [idx0 (by omega) (by omega)]
      simp only [bok]]
    simp only [bok]
    have hl2 : (sortP ((rng 0 16).map fun i => (at0 keys i, i))).length = 16 := by
      rw [(sortP_perm _).length_eq, List.length_map, rng_length]; rfl
    rw [lcX_ok (g := fun p : Int × Int => p.2) (by rw [hl2, sizeLine_eq]; omega) fun p hp => rfl]
    show (List.map _ _).length = 16
    rw [List.length_map]; exact hl2
  refine wp (P := fun l : List Int => (l.length : Int) = size) (wp (many2 (by omega) (by omega) (by omega) (by omega) (by omega) (by omega)) fun l hl => (sub_ok (by omega)).mono fun r hr => by omega) fun gaps hgaps => ?_
  refine wp (draw_ok (by omega) (by omega) (by omega)) fun cut0 hcut => ?_
  refine wp (draw_ok (by omega) (by omega) (by omega)) fun spot hspot => ?_
  refine thenR_wp (P := fun l : List Int => (l.length : Int) = size) ?_ fun _ _ => rfl
  refine wp (P := fun _ : List Int => True) (wp (P := fun _ : Int => True) (wp (draw_ok (by omega) (by omega) (by omega)) fun _ _ => trivial) fun _ _ => trivial) fun totals _ => ?_
  refine forC_inv hgaps fun gaps hgaps total _ => ?_
  rw [setM_ok (by omega) (by omega)]
  simp only [bok]
  have hg2 : ((gaps.set (size - 1).toNat (total - (cut gaps none (some (size - 1))).sum)).length : Int) = size := by rw [List.length_set]; exact hgaps
  generalize gaps.set (size - 1).toNat (total - (cut gaps none (some (size - 1))).sum) = gaps2 at hg2
  rw [guardR_ok (inRange_of (by omega) (by omega))]
  simp only [bok]
  have hrl : (rng 0 size).length = size.toNat := by rw [rng_length]; congr 1; omega
  refine wp (P := fun l : List B => l.length = size.toNat) ((lcX_all (P := fun _ => True) (by rw [hrl, sizeLine_eq]; omega) fun i hi => ?_).mono fun l hl => by rw [hl.1, hrl]) fun bs hbs => ?_
  · have hi := rng_mem hi
    have hm1 := Int.emod_nonneg (i + 1) (show size ≠ 0 by omega)
    have hm2 := Int.emod_lt_of_pos (i + 1) (show 0 < size by omega)
    rw [idx0 (xs := order) (by omega) (by omega), mod_pos (by omega)]
    simp only [bok]
    rw [idx0 (xs := order) (by omega) (by omega), idx0 (xs := gaps2) (by omega) (by omega)]
    trivial
  refine wp (P := fun l : List B => l.length ≤ 40) ?_ fun bs2 hbs2 => ?_
  · have c1 := cut_len (xs := bs) (a := some cut0) (b := none)
    have c2 := cut_len (xs := bs) (a := none) (b := some cut0)
    refine wp (catP (n := 32) (by omega) (by omega)) fun x hx => ?_
    rw [idx0 (xs := order) (by omega) (by omega)]
    simp only [bok]
    refine wp (P := fun l : List B => l.length = 1) (wp (P := fun _ : B => True) (wp (P := fun _ : Int => True) (wp (draw_ok (by omega) (by omega) (by omega)) fun _ _ => trivial) fun _ _ => trivial) fun _ _ => rfl) fun y hy => ?_
    exact (catP (n := 33) (by omega) (by omega)).mono fun z hz => by omega
  refine wp (P := fun l : List Int => l.length = size.toNat) ((lcX_all (P := fun _ => True) (by rw [hrl, sizeLine_eq]; omega) fun i hi => by rw [mod_pos (by omega)]; trivial).mono fun l hl => by rw [hl.1, hrl]) fun ring hring => ?_
  rw [idx0 hspot.1 (by omega)]
  simp only [bok]
  rw [setM_ok (by omega) (by omega)]
  simp only [bok]
  rw [idx0 (by omega) (by omega)]
  simp only [bok]
  rw [setM_ok hspot.1 (by rw [List.length_set]; omega)]
  simp only [bok]
  have hol : ((ring.set (0 : Int).toNat (at0 ring spot)).set spot.toNat (at0 ring 0)).length ≤ 16 := by rw [List.length_set, List.length_set]; omega
  generalize (ring.set (0 : Int).toNat (at0 ring spot)).set spot.toNat (at0 ring 0) = other at hol
  have c1 := cut_len (xs := ring) (a := some spot) (b := none)
  have c2 := cut_len (xs := ring) (a := none) (b := some spot)
  have c3 := cut_len (xs := ring) (a := some (spot + 1)) (b := none)
  refine wp (P := fun L : List (List Int) => L.length ≤ 10 ∧ ∀ l ∈ L, l.length ≤ 100) ?_ fun asked hasked => ?_
  · refine wp (catP (n := 40) (by omega) (by omega)) fun a80 h80 => ?_
    refine wp (catP (n := 40) (by omega) (by omega)) fun a81 h81 => ?_
    refine wp (catP (n := 40) (by simp; omega) (by omega)) fun a82 h82 => ?_
    refine ⟨by show 7 ≤ 10; omega, fun l hl => ?_⟩
    simp only [List.mem_cons, List.not_mem_nil, or_false] at hl
    rcases hl with rfl | rfl | rfl | rfl | rfl | rfl | rfl <;> first | omega | simp
  refine wp (P := fun L : List (List Int) => L.length ≤ 20 ∧ ∀ l ∈ L, l.length ≤ 100) ?_ fun asked2 hasked2 => ?_
  · refine wp (P := fun L : List (List Int) => L.length ≤ 10 ∧ ∀ l ∈ L, l.length ≤ 100) ?_ fun y hy => ?_
    · refine wp (catP (n := 40) (by omega) (by omega)) fun a86 h86 => ?_
      refine wp (P := fun z : List Int => z.length ≤ 60) (wp (catP (n := 40) (by simp; omega) (by omega)) fun x84 h84 => (catP (n := 60) (by omega) (by omega))) fun a87 h87 => ?_
      refine ⟨by show 4 ≤ 10; omega, fun l hl => ?_⟩
      simp only [List.mem_cons, List.not_mem_nil, or_false] at hl
      rcases hl with rfl | rfl | rfl | rfl <;> first | omega | simp
    · rw [cat_ok (by rw [sizeLine_eq]; omega)]
      refine ⟨by show (asked ++ y).length ≤ 20; rw [List.length_append]; omega, fun l hl => ?_⟩
      rcases List.mem_append.mp hl with hl | hl
      · exact hasked.2 l hl
      · exact hy.2 l hl
  rw [forC_look]
  · exact ⟨gaps2, rfl, hg2⟩
  · intro one hone
    have := hasked2.2 one hone
    rw [is_ring_ok (by omega) (by omega), law_ring_ok (by omega) (by omega)]
    simp only [bok]
    rw [says_refl]
    rfl
theorem many0 {s : Scr} {k limit : Int} (hk : 0 ≤ k) : m__law_many s k 0 limit = .ok [] := by
  unfold m__law_many
  apply ok_eq
  refine wp (cell_ok hk) fun c _ => rfl
theorem manyB {s : Scr} {k many : Int} {n : Nat} (hk : 0 ≤ k) (hk2 : k < 4294967296) (hm0 : 0 ≤ many) (hm : many ≤ 1000000) (hn : n ≤ 1000) (h0 : n = 0 → many = 0) :
    Ok (m__law_many s k many (n : Int)) fun xs => (xs.length : Int) = many ∧ ∀ x ∈ xs, 0 ≤ x ∧ x < n := by
  by_cases e : n = 0
  · rw [h0 e, many0 hk]
    exact ⟨rfl, fun x hx => nomatch hx⟩
  · exact many2 hk hk2 hm0 hm (by omega) (by omega)
theorem bounds_ok {s : Scr} {n : Nat} {many wide : Int} {kept : Bool} (hn : n ≤ 16) (hm0 : 0 ≤ many) (hm : many ≤ 60) (h0 : n = 0 → many = 0) (hw : 1 ≤ wide ∧ wide ≤ 999999) :
    Ok (m__law_bounds s (n : Int) many wide kept) fun bs => (bs.length : Int) = many ∧ Vb n bs := by
  unfold m__law_bounds
  refine wp (manyB (by omega) (by omega) hm0 (by omega) (by omega) h0) fun uppers hu => ?_
  refine wp (manyB (by omega) (by omega) hm0 (by omega) (by omega) h0) fun lowers hlo => ?_
  rw [mul_l (by omega)]
  simp only [bok]
  refine wp (P := fun l : List Int => (l.length : Int) = many) (wp (many2 (by omega) (by omega) hm0 (by omega) (by omega) (by omega)) fun l hl => (sub_ok (by omega)).mono fun r hr => by omega) fun gaps hgaps => ?_
  refine wp (many2 (by omega) (by omega) (by omega) (by omega) (by omega) (by omega)) fun hidden hhid => ?_
  refine wp (many2 (by omega) (by omega) hm0 (by omega) (by omega) (by omega)) fun slack hslack => ?_
  rw [guardR_ok (inRange_of (by omega) (by omega))]
  simp only [bok]
  have hrl : (rng 0 many).length = many.toNat := by rw [rng_length]; congr 1; omega
  refine wp (P := fun l : List Int => (l.length : Int) = many) ?_ fun gaps2 hg2 => ?_
  · cases kept
    · exact hgaps
    · refine wp (P := fun l : List Int => (l.length : Int) = many) ((lcX_all (P := fun _ => True) (by rw [hrl, sizeLine_eq]; omega) fun i hi => ?_).mono fun l hl => by omega) fun l hl => hl
      have hi := rng_mem hi
      rw [idx0 (xs := uppers) (by omega) (by omega), idx0 (xs := lowers) (by omega) (by omega), idx0 (xs := slack) (by omega) (by omega)]
      simp only [bok]
      have hu1 := hu.2 _ (at0_mem (xs := uppers) (i := i) (by omega) (by omega))
      have hl1 := hlo.2 _ (at0_mem (xs := lowers) (i := i) (by omega) (by omega))
      rw [idx0 (xs := hidden) (by omega) (by omega), idx0 (xs := hidden) (by omega) (by omega)]
      trivial
  · refine (lcX_all (P := fun b : B => (0 ≤ b.a ∧ b.a < n) ∧ (0 ≤ b.b ∧ b.b < n)) (by rw [hrl, sizeLine_eq]; omega) fun i hi => ?_).mono fun l hl => ⟨by omega, hl.2⟩
    have hi := rng_mem hi
    rw [idx0 (xs := uppers) (by omega) (by omega), idx0 (xs := lowers) (by omega) (by omega), idx0 (xs := gaps2) (by omega) (by omega)]
    simp only [bok]
    exact ⟨hu.2 _ (at0_mem (xs := uppers) (i := i) (by omega) (by omega)), hlo.2 _ (at0_mem (xs := lowers) (i := i) (by omega) (by omega))⟩
theorem ediv_ok {x c : Int} (hc : 0 < c) (hc2 : c < 4294967296) : divM x c = .ok (x / c) := div_s hc hc2
theorem law_true (ns : List Int) (hl : ns.length ≤ 63) (hb : ∀ z ∈ ns, PySem.Builtin.Int.intBits z ≤ 1048576) : m_law ⟨ns⟩ = .ok true := by
  apply ok_eq
  unfold m_law
  rw [drawn_ok]
  simp only [bok, Bool.not_true, Bool.false_eq_true, if_false]
  refine wp (cell_ok (by omega)) fun size _ => ?_
  rw [mod_pos (by omega), ediv_ok (by omega) (by omega), ediv_ok (by omega) (by omega), ediv_ok (by omega) (by omega), ediv_ok (by omega) (by omega), ediv_ok (by omega) (by omega), ediv_ok (by omega) (by omega)]
  simp only [bok]
  rw [mod_pos (by omega), mod_pos (by omega), mod_pos (by omega), mod_pos (by omega), mod_pos (by omega), mod_pos (by omega)]
  simp only [bok]
  have m1 := Int.emod_nonneg size (show (8 : Int) ≠ 0 by omega)
  have m2 := Int.emod_lt_of_pos size (show (0 : Int) < 8 by omega)
  have m3 := Int.emod_nonneg (size / 8) (show (15 : Int) ≠ 0 by omega)
  have m4 := Int.emod_lt_of_pos (size / 8) (show (0 : Int) < 15 by omega)
  refine wp (P := fun r : Int × Int => (0 ≤ r.1 ∧ r.1 ≤ 16) ∧ (0 ≤ r.2 ∧ r.2 ≤ 60)) ?_ ?_
  · split
    · exact (by decide : ((0 : Int) ≤ 16 ∧ (16 : Int) ≤ 16) ∧ ((0 : Int) ≤ 60 ∧ (60 : Int) ≤ 60))
    · exact ⟨⟨m1, show size % 8 ≤ 16 by omega⟩, m3, show size / 8 % 15 ≤ 60 by omega⟩
  intro rr hrr
  obtain ⟨c, m⟩ := rr
  have hc := hrr.1
  have hm := hrr.2
  clear hrr
  dsimp only at hc hm ⊢
  obtain ⟨n, hn⟩ := Int.eq_ofNat_of_zero_le hc.1
  subst hn
  refine wp (P := fun r : Int => (0 ≤ r ∧ r ≤ 60) ∧ (n = 0 → r = 0)) ?_ fun many hmany => ?_
  · by_cases h : (n : Int) = 0
    · rw [if_pos (decide_eq_true h)]
      exact ⟨⟨Int.le_refl _, by decide⟩, fun _ => rfl⟩
    · rw [if_neg (by simpa using h)]
      exact ⟨hm, fun z => absurd (by rw [z]; rfl) h⟩
  refine wp (P := fun r : Int => 1 ≤ r ∧ r ≤ 999999) ?_ fun wide hw => ?_
  · split
    · exact ⟨by decide, Int.le_refl _⟩
    · exact ⟨by decide, by decide⟩
  refine wp (bounds_ok (by omega) hmany.1.1 hmany.1.2 hmany.2 hw) fun bs0 hbs0 => ?_
  simp only [andM_ok, bok]
  refine wp (P := fun l : List B => l.length ≤ 70 ∧ Vb n l) ?_ fun bs hbs => ?_
  · split
    · rename_i hk
      have hk1 : 0 < many := by
        rw [Bool.and_eq_true] at hk
        exact of_decide_eq_true hk.1
      refine wp (P := fun r : Int => 0 ≤ r ∧ r < many) (wp (cell_ok (by omega)) fun x _ => by rw [mod_pos hk1]; exact ⟨Int.emod_nonneg _ (by omega), Int.emod_lt_of_pos _ hk1⟩) fun at' hat => ?_
      rw [idx0 hat.1 (by omega)]
      simp only [bok]
      have hb1 := hbs0.2 _ (at0_mem (xs := bs0) hat.1 (by omega))
      have c1 := cut_len (xs := bs0) (a := none) (b := some (at' + 1))
      have c2 := cut_len (xs := bs0) (a := some (at' + 1)) (b := none)
      have hle : (cut bs0 none (some (at' + 1))).length + (cut bs0 (some (at' + 1)) none).length ≤ 61 := by
        rw [cut_to (by omega) (by omega), cut_from (by omega) (by omega), List.length_take, List.length_drop]; omega
      rw [cat_ok (by rw [sizeLine_eq]; simp; omega)]
      simp only [bok]
      rw [cat_ok (by rw [sizeLine_eq, List.length_append]; simp; omega)]
      simp only [bok]
      refine ⟨by show ((cut bs0 none (some (at' + 1)) ++ [_]) ++ cut bs0 (some (at' + 1)) none).length ≤ 70; rw [List.length_append, List.length_append]; simp; omega, fun b hb => ?_⟩
      rcases List.mem_append.mp hb with hb | hb
      · rcases List.mem_append.mp hb with hb | hb
        · exact hbs0.2 b (cut_sub hb)
        · cases List.mem_singleton.mp hb
          exact ⟨hb1.2, hb1.1⟩
      · exact hbs0.2 b (cut_sub hb)
    · exact ⟨by show bs0.length ≤ 70; omega, hbs0.2⟩
  have hV := hbs.2
  have hbl : bs.length ≤ 70 := hbs.1
  have key := least_ok hV (show n ≤ 50 by omega) (show bs.length ≤ 1000 by omega)
  generalize m_least_scale (n : Int) bs = m at key ⊢
  refine Exists.elim key fun yy hyy => ?_
  have hye := And.left hyy
  have hal := And.left (And.right hyy)
  have h := And.right (And.right hyy)
  clear hyy
  rw [hye]
  clear hye
  obtain ⟨kind, ans⟩ := yy
  simp only [bok]
  dsimp only at hal h
  rw [(Dat.iff bs bs).mpr rfl, whole_list_ok (by omega)]
  rw [show (Len.len ((kind, ans) : Str × List Int) : Res Int) = .ok 2 from rfl]
  simp only [bok, orM_ok, Bool.not_true, decide_true, Bool.or_self, Bool.false_eq_true, if_false]
  rw [longest_ok hbs.2 (by omega)]
  simp only [bok]
  rcases h with ⟨h1, h2⟩ | ⟨h1, h2, h3⟩
  · rw [h2, h1]
    simp only [Option.isNone_some, Bool.not_false, if_true, decide_true]
    show Ok (andM (Res.ok true) (Res.bind (Res.ok ans) _)) _
    simp only [bok, andM_ok]
    rw [(Dat.iff ans ans).mpr rfl]
    rfl
  · rw [h2, h1, law_ring_ok (by omega) (by omega), isr_t h3, judged_ok (by omega) (by omega) h3]
    simp only [Option.isNone_none, Bool.not_true, Bool.false_eq_true, if_false, decide_true, andM_ok]
    rfl
end Law

set_option maxHeartbeats 0
namespace Hd
open PySem PySem.Spec L2 Py Lw
def d__round : He.DefD := ⟨("_round", none), "_round", "_round", defArgs (topS 3), defBody (topS 3), defScope (topS 3), [], []⟩
def d__ring : He.DefD := ⟨("_ring", none), "_ring", "_ring", defArgs (topS 4), defBody (topS 4), defScope (topS 4), [], []⟩
def d_least_scale : He.DefD := ⟨("least_scale", none), "least_scale", "least_scale", defArgs (topS 1), defBody (topS 1), defScope (topS 1), [], []⟩
def d_is_ring : He.DefD := ⟨("is_ring", none), "is_ring", "is_ring", defArgs (topS 2), defBody (topS 2), defScope (topS 2), [], []⟩
def d__law_is_whole : He.DefD := ⟨("_law_is_whole", none), "_law_is_whole", "_law_is_whole", defArgs (topS 6), defBody (topS 6), defScope (topS 6), [], []⟩
def d__law_cell : He.DefD := ⟨("_law_cell", none), "_law_cell", "_law_cell", defArgs (topS 7), defBody (topS 7), defScope (topS 7), [], []⟩
def d__law_many : He.DefD := ⟨("_law_many", none), "_law_many", "_law_many", defArgs (topS 8), defBody (topS 8), defScope (topS 8), [], []⟩
def d__law_whole_list : He.DefD := ⟨("_law_whole_list", none), "_law_whole_list", "_law_whole_list", defArgs (topS 9), defBody (topS 9), defScope (topS 9), [], []⟩
def d__law_longest : He.DefD := ⟨("_law_longest", none), "_law_longest", "_law_longest", defArgs (topS 10), defBody (topS 10), defScope (topS 10), [], []⟩
def d__law_ring : He.DefD := ⟨("_law_ring", none), "_law_ring", "_law_ring", defArgs (topS 11), defBody (topS 11), defScope (topS 11), [], []⟩
def d__law_judged : He.DefD := ⟨("_law_judged", none), "_law_judged", "_law_judged", defArgs (topS 12), defBody (topS 12), defScope (topS 12), [], []⟩
def d__law_says : He.DefD := ⟨("_law_says", none), "_law_says", "_law_says", defArgs (topS 13), defBody (topS 13), defScope (topS 13), [], []⟩
def d__law_drawn_rings : He.DefD := ⟨("_law_drawn_rings", none), "_law_drawn_rings", "_law_drawn_rings", defArgs (topS 14), defBody (topS 14), defScope (topS 14), [], []⟩
def d__law_bounds : He.DefD := ⟨("_law_bounds", none), "_law_bounds", "_law_bounds", defArgs (topS 15), defBody (topS 15), defScope (topS 15), [], []⟩
def d_law : He.DefD := ⟨("law", none), "law", "law", defArgs (topS 16), defBody (topS 16), defScope (topS 16), [], []⟩
def fn0 : List He.DefD := [d__round, d__ring, d_least_scale, d_is_ring, d__law_is_whole, d__law_cell, d__law_many, d__law_whole_list, d__law_longest, d__law_ring, d__law_judged, d__law_says, d__law_drawn_rings, d__law_bounds, d_law]
def fn : List He.DefD := fn0
def fa0 : List He.Fa := [.glo "_round", .glo "_ring", .glo "least_scale", .glo "is_ring", .glo "_law_is_whole", .glo "_law_cell", .glo "_law_many", .glo "_law_whole_list", .glo "_law_longest", .glo "_law_ring", .glo "_law_judged", .glo "_law_says", .glo "_law_drawn_rings", .glo "_law_bounds", .glo "law", .free "abs", .free "all", .free "bool", .free "enumerate", .free "int", .free "isinstance", .free "len", .free "list", .free "range", .free "set", .free "sorted", .free "sum", .free "tuple"]
def fa : List He.Fa := fa0
def fb (K : PySem.W.Frag) : Bool := true
theorem fx {K : PySem.W.Frag} {h : Heap} {mg : Str → Option Value} (X : K.In h) (G : h.Ns mainGlobals mg) (c : SaysP fb fa fn K) : Fx PySem.Challenge.pw_judgesandtrees_k07_least_scale_or_ring K mg where
  d__round := c.says.def_ 0 (d := d__round) rfl
  g__round := He.glo_ok X G (c.says.fact 0 (f := .glo "_round") rfl)
  d__ring := c.says.def_ 1 (d := d__ring) rfl
  g__ring := He.glo_ok X G (c.says.fact 1 (f := .glo "_ring") rfl)
  d_least_scale := c.says.def_ 2 (d := d_least_scale) rfl
  g_least_scale := He.glo_ok X G (c.says.fact 2 (f := .glo "least_scale") rfl)
  d_is_ring := c.says.def_ 3 (d := d_is_ring) rfl
  g_is_ring := He.glo_ok X G (c.says.fact 3 (f := .glo "is_ring") rfl)
  d__law_is_whole := c.says.def_ 4 (d := d__law_is_whole) rfl
  g__law_is_whole := He.glo_ok X G (c.says.fact 4 (f := .glo "_law_is_whole") rfl)
  d__law_cell := c.says.def_ 5 (d := d__law_cell) rfl
  g__law_cell := He.glo_ok X G (c.says.fact 5 (f := .glo "_law_cell") rfl)
  d__law_many := c.says.def_ 6 (d := d__law_many) rfl
  g__law_many := He.glo_ok X G (c.says.fact 6 (f := .glo "_law_many") rfl)
  d__law_whole_list := c.says.def_ 7 (d := d__law_whole_list) rfl
  g__law_whole_list := He.glo_ok X G (c.says.fact 7 (f := .glo "_law_whole_list") rfl)
  d__law_longest := c.says.def_ 8 (d := d__law_longest) rfl
  g__law_longest := He.glo_ok X G (c.says.fact 8 (f := .glo "_law_longest") rfl)
  d__law_ring := c.says.def_ 9 (d := d__law_ring) rfl
  g__law_ring := He.glo_ok X G (c.says.fact 9 (f := .glo "_law_ring") rfl)
  d__law_judged := c.says.def_ 10 (d := d__law_judged) rfl
  g__law_judged := He.glo_ok X G (c.says.fact 10 (f := .glo "_law_judged") rfl)
  d__law_says := c.says.def_ 11 (d := d__law_says) rfl
  g__law_says := He.glo_ok X G (c.says.fact 11 (f := .glo "_law_says") rfl)
  d__law_drawn_rings := c.says.def_ 12 (d := d__law_drawn_rings) rfl
  g__law_drawn_rings := He.glo_ok X G (c.says.fact 12 (f := .glo "_law_drawn_rings") rfl)
  d__law_bounds := c.says.def_ 13 (d := d__law_bounds) rfl
  g__law_bounds := He.glo_ok X G (c.says.fact 13 (f := .glo "_law_bounds") rfl)
  d_law := c.says.def_ 14 (d := d_law) rfl
  g_law := He.glo_ok X G (c.says.fact 14 (f := .glo "law") rfl)
  n_abs := He.free_ok X G (c.says.fact 15 (f := .free "abs") rfl)
  n_all := He.free_ok X G (c.says.fact 16 (f := .free "all") rfl)
  n_bool := He.free_ok X G (c.says.fact 17 (f := .free "bool") rfl)
  n_enumerate := He.free_ok X G (c.says.fact 18 (f := .free "enumerate") rfl)
  n_int := He.free_ok X G (c.says.fact 19 (f := .free "int") rfl)
  n_isinstance := He.free_ok X G (c.says.fact 20 (f := .free "isinstance") rfl)
  n_len := He.free_ok X G (c.says.fact 21 (f := .free "len") rfl)
  n_list := He.free_ok X G (c.says.fact 22 (f := .free "list") rfl)
  n_range := He.free_ok X G (c.says.fact 23 (f := .free "range") rfl)
  n_set := He.free_ok X G (c.says.fact 24 (f := .free "set") rfl)
  n_sorted := He.free_ok X G (c.says.fact 25 (f := .free "sorted") rfl)
  n_sum := He.free_ok X G (c.says.fact 26 (f := .free "sum") rfl)
  n_tuple := He.free_ok X G (c.says.fact 27 (f := .free "tuple") rfl)
end Hd
open PySem PySem.W PyProof.Rows
open_top hd for PySem.Challenge.rw_judgesandtrees_k07_least_scale_or_ring
theorem PySem.Challenge.cw_judgesandtrees_k07_least_scale_or_ring_holds : PySem.Challenge.rw_judgesandtrees_k07_least_scale_or_ring.Holds := by
  refine hd ?_
  refine Py.walk_py (l := PySem.Challenge.rw_judgesandtrees_k07_least_scale_or_ring) (n := 63) (k := 5) (x := "script") (f := fun u => Lw.m_law u.1) rfl (by decide) (by kernel_rfl) ⟨rfl, by decide, by decide⟩ (fun ns hl hb => Law.law_true ns hl hb) ?F
  intro w mg fa h Y G hmg0
  have KX := kIn_of Y
  have g := Hd.fx KX G ⟨by kernel_rfl⟩
  have hmg : mg ("law" : PySem.Str) = some (.ref fa) := hmg0
  have e := hmg.symm.trans g.g_law
  cases e
  obtain ⟨fd, hb, hF⟩ := Lw.okL_law (P := (PySem.Challenge.rw_judgesandtrees_k07_least_scale_or_ring).prog) (w := w) g
  exact ⟨_, fd, KX, hb, fun base _ _ => hF base⟩
