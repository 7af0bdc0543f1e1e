import PyProof.Rows.All
import HandS.ForMost
import HandS.ForExc
import HandS.Walk
import HandS.Gcd
import HandS.Wide
import HandS.Defaults
import HandS.CallSlots
import HandS.HeadHook2
import HandS.ExcCtx
import HandS.HotCalls
import HandS.IsInst
import HandS.Style
import HandS.Conv
import HandS.SortRule
import HandS.SortInts
import HandS.Deep
import HandS.Head0
import HandS.Head1
import HandS.Head2
import HandS.HeadEnd
import HandS.HeadHook1
import HandS.EndBits
import HandS.ExcInit
import HandS.FStr
import KE.KExcSuper
import HandS.Exc
import HandS.WordsExc
import HandS.ExcField
import HandS.ExcIs
import HandS.TryMany
import HandS.Text
import KE.GoesMore
import HandS.Iter
import HandS.TupAny
import Wide.All
import OpenK.AllK
import Wide.FinOn
import KE.KStateDown
import PySem.Challenge.RW_judgesandtrees_k04_a_line_or_one_contrar
set_option Elab.async false
set_option linter.all false
set_option maxRecDepth 100000
set_option maxHeartbeats 1000000
/-! Py, part A: results, hidden heaps, representations, slots, states. -/
namespace Py
open PySem PySem.Spec L2

/-! ### results -/
/-- what an own error says: its class, its fields -/
structure Ex where
  cls : String
  fs : List (String × PyData)
inductive Res (α : Type) where
  | ok (a : α)
  | err (e : Ex)
  | bad
def Res.bind {α β : Type} : Res α → (α → Res β) → Res β
  | .ok a, f => f a
  | .err e, _ => .err e
  | .bad, _ => .bad
/-- errors shut off -/
def Res.quiet {α : Type} : Res α → Res α
  | .ok a => .ok a
  | _ => .bad
def guardR {α : Type} (c : Bool) (m : Res α) : Res α := if c then m else .bad
def Post {α : Type} (m : Res α) (Q : α → Prop) (E : Ex → Prop) : Prop := match m with
  | .ok a => Q a
  | .err e => E e
  | .bad => False
section
variable {α β : Type} {m : Res α} {f : α → Res β} {Q Q' : α → Prop} {E E' : Ex → Prop} {R : β → Prop}
theorem Post.bind (h : Post (m.bind f) R E) : Post m (fun a => Post (f a) R E) E := by
  cases m <;> exact h
theorem Post.to_bind (h : Post m (fun a => Post (f a) R E) E) : Post (m.bind f) R E := by
  cases m <;> exact h
theorem Post.imp (h : Post m Q E) (hq : ∀ a, Q a → Q' a) (he : ∀ e, E e → E' e) : Post m Q' E' := by
  cases m with
  | ok a => exact hq a h
  | err e => exact he e h
  | bad => exact h
theorem Post.ok {a : α} (h : Q a) : Post (.ok a) Q E := h
theorem Post.guard {c : Bool} (h : Post (guardR c m) Q E) : c = true ∧ Post m Q E := by
  unfold guardR at h
  cases c with
  | true => exact ⟨rfl, h⟩
  | false => exact h.elim
theorem Post.quiet (h : Post m.quiet Q E) : Post m Q E' := by
  cases m with
  | ok a => exact h
  | err e => exact h.elim
  | bad => exact h.elim
theorem bind_ok (a : α) (f : α → Res β) : (Res.ok a).bind f = f a := rfl
theorem bind_bad (f : α → Res β) : (Res.bad).bind f = .bad := rfl
theorem bind_err (e : Ex) (f : α → Res β) : (Res.err e).bind f = .err e := rfl
theorem bind_assoc {γ : Type} (m : Res α) (f : α → Res β) (g : β → Res γ) : (m.bind f).bind g = m.bind fun a => (f a).bind g := by cases m <;> rfl
theorem guard_true (m : Res α) : guardR true m = m := rfl
theorem guard_of {c : Bool} (h : c = true) (m : Res α) : guardR c m = m := by rw [h]; rfl
end

/-! ### a heap with some addresses out of sight -/
def hide (B : List Addr) (H : Hp) : Hp := fun a => if a ∈ B then none else H a
section
variable {B B' : List Addr} {H H' H1 : Hp} {a : Addr} {o : HO}
theorem hide_out (h : a ∉ B) : hide B H a = H a := if_neg h
theorem hide_in (h : a ∈ B) : hide B H a = none := if_pos h
theorem hide_some {b : Addr} (e : hide B H b = some o) : b ∉ B ∧ H b = some o := by
  by_cases h : b ∈ B
  · rw [hide_in h] at e; cases e
  · rw [hide_out h] at e; exact ⟨h, e⟩
theorem hide_same (s : Same H H') : Same (hide B H) (hide B H') := fun b o e => by
  obtain ⟨h1, h2⟩ := hide_some e
  rw [hide_out h1]; exact s b o h2
theorem hide_sub : Same (hide B H) H := fun b o e => (hide_some e).2
theorem hide_mono (h : ∀ a, a ∈ B → a ∈ B') : Same (hide B' H) (hide B H) := fun b o e => by
  obtain ⟨h1, h2⟩ := hide_some e
  rw [hide_out fun z => h1 (h b z)]; exact h2
theorem hide_upd_in (h : a ∈ B) : hide B (upd H a o) = hide B H := by
  funext b
  unfold hide
  by_cases hb : b ∈ B
  · rw [if_pos hb, if_pos hb]
  · rw [if_neg hb, if_neg hb, upd_ne]
    rintro rfl
    exact hb h
theorem hide_cons_new (h : H a = none) : hide (a :: B) H = hide B H := by
  funext b
  unfold hide
  by_cases hb : b ∈ B
  · rw [if_pos hb, if_pos (List.mem_cons_of_mem _ hb)]
  · by_cases e : b = a
    · subst e; rw [if_pos List.mem_cons_self, if_neg hb, h]
    · rw [if_neg hb, if_neg fun z => (List.mem_cons.mp z).elim e hb]
theorem same_upd {p : Addr} {o : HO} (h : H p = none) : Same H (upd H p o) := fun b x e => by
  rw [upd_ne (ne_of_none e h)]; exact e
theorem hide_nil : hide [] H = H := by funext b; exact if_neg List.not_mem_nil
end
theorem dom_same {H H' : Hp} (s : Same H H') {b : Addr} (h : H b ≠ none) : H' b ≠ none := by
  cases e : H b with
  | none => exact absurd e h
  | some o => rw [s b o e]; intro z; cases z

/-! ### what a value stands for -/
class Rp (T : Type) where
  rp : PySem.W.Frag → Hp → V → T → Prop
  mono : ∀ {K : PySem.W.Frag} {H H' : Hp} {v : V} {x : T}, Same H H' → rp K H v x → rp K H' v x
open Rp (rp)
/-- where the heap does not matter -/
class Flat (T : Type) [Rp T] : Prop where
  any : ∀ {K : PySem.W.Frag} {H H' : Hp} {v : V} {x : T}, rp K H v x → rp K H' v x
/-- n values as a tuple's places -/
inductive AV : Type 1 where
  | mk (T : Type) [Rp T] (x : T)
abbrev av {T : Type} [Rp T] (x : T) : AV := .mk T x
def AV.rp (K : PySem.W.Frag) (H : Hp) (v : V) : AV → Prop
  | @AV.mk T inst x => @Rp.rp T inst K H v x
theorem AV.mono {K : PySem.W.Frag} {H H' : Hp} {v : V} {x : AV} (s : Same H H') (h : x.rp K H v) : x.rp K H' v := by
  cases x with
  | @mk T inst y => exact @Rp.mono T inst K H H' v y s h
inductive ArgsR (K : PySem.W.Frag) (H : Hp) : List V → List AV → Prop where
  | nil : ArgsR K H [] []
  | cons {v : V} {vs : List V} {x : AV} {xs : List AV} : AV.rp K H v x → ArgsR K H vs xs → ArgsR K H (v :: vs) (x :: xs)
theorem Paired.imp2 {α β : Type} {F G : α → β → Prop} : ∀ {xs : List α} {ys : List β}, Paired F xs ys → (∀ a b, F a b → G a b) → Paired G xs ys
  | _, _, .nil, _ => .nil
  | _, _, .cons r t, f => .cons (f _ _ r) (Paired.imp2 t f)
theorem ArgsR.mono {K : PySem.W.Frag} {H H' : Hp} {vs : List V} {xs : List AV} (s : Same H H') (h : ArgsR K H vs xs) : ArgsR K H' vs xs := by
  induction h with
  | nil => exact .nil
  | cons r _ ih => exact .cons (AV.mono s r) ih
abbrev RpAll {T : Type} [Rp T] (K : PySem.W.Frag) (H : Hp) : List V → List T → Prop := Paired (Rp.rp K H)
theorem RpAll.mono {T : Type} [Rp T] {K : PySem.W.Frag} {H H' : Hp} {vs : List V} {xs : List T} (s : Same H H') (h : RpAll K H vs xs) : RpAll K H' vs xs := Paired.imp2 h fun _ _ => Rp.mono s
theorem SqT.same {K : PySem.W.Frag} {H H' : Hp} {a : Addr} {xs : List V} (e : Same H H') (h : SqT K H a xs) : SqT K H' a xs := by
  rcases h with (h | ⟨o, h⟩) | h
  · exact .inl (.inl (e _ _ h))
  · exact .inl (.inr ⟨o, e _ _ h⟩)
  · exact .inr h

instance : Rp Int where
  rp _ _ v x := v = .int x
  mono _ h := h
instance : Flat Int := ⟨fun h => h⟩
instance : Rp Bool where
  rp _ _ v x := v = .bl x
  mono _ h := h
instance : Flat Bool := ⟨fun h => h⟩
instance : Rp Str where
  rp _ _ v x := v = .str x
  mono _ h := h
instance : Flat Str := ⟨fun h => h⟩
instance : Rp Unit where
  rp _ _ v _ := v = .non
  mono _ h := h
instance : Flat Unit := ⟨fun h => h⟩
instance {T : Type} [Rp T] : Rp (Option T) where
  rp K H v x := match x with
    | none => v = .non
    | some y => rp K H v y ∧ v ≠ .non
  mono {K H H' v x} s h := by
    cases x with
    | none => exact h
    | some y => exact ⟨Rp.mono s h.1, h.2⟩
instance {T : Type} [Rp T] [Flat T] : Flat (Option T) := ⟨fun {K H H' v x} h => by
  cases x with
  | none => exact h
  | some y => exact ⟨Flat.any h.1, h.2⟩⟩
instance {T : Type} [Rp T] : Rp (List T) where
  rp K H v x := ∃ a vs, v = .ref a ∧ H a = some (.lst vs) ∧ RpAll K H vs x
  mono {K H H' v x} s h := by
    obtain ⟨a, vs, e, h1, h2⟩ := h
    exact ⟨a, vs, e, s _ _ h1, RpAll.mono s h2⟩
/-- a tuple of any length, its items of one kind -/
structure Tup (T : Type) where
  l : List T
instance {T : Type} [Rp T] : Rp (Tup T) where
  rp K H v x := ∃ a vs, v = .ref a ∧ SqT K H a vs ∧ RpAll K H vs x.l
  mono {K H H' v x} s h := by
    obtain ⟨a, vs, e, h1, h2⟩ := h
    exact ⟨a, vs, e, SqT.same s h1, RpAll.mono s h2⟩
/-- tuples with a fixed number of places: by their places -/
class Places (T : Type) where
  av : T → List AV
/-- a tuple by its places -/
def rpT {T : Type} [Places T] (K : PySem.W.Frag) (H : Hp) (v : V) (x : T) : Prop := ∃ a vs, v = .ref a ∧ SqT K H a vs ∧ ArgsR K H vs (Places.av x)
theorem rpT.mono {T : Type} [Places T] {K : PySem.W.Frag} {H H' : Hp} {v : V} {x : T} (s : Same H H') (h : rpT K H v x) : rpT K H' v x := by
  obtain ⟨a, vs, e, h1, h2⟩ := h
  exact ⟨a, vs, e, SqT.same s h1, ArgsR.mono s h2⟩
instance (priority := low) {T : Type} [Places T] : Rp T where
  rp := rpT
  mono := rpT.mono
instance {A B : Type} [Rp A] [Rp B] : Places (A × B) := ⟨fun x => [av x.1, av x.2]⟩
/-- arguments one behind the other -/
def asN : Unit → List AV := fun _ => []
def asC {T : Type} [Rp T] {A : Type} (as : A → List AV) : T × A → List AV := fun p => av p.1 :: as p.2
structure T3 (A B C : Type) where
  (a : A) (b : B) (c : C)
instance {A B C : Type} [Rp A] [Rp B] [Rp C] : Places (T3 A B C) := ⟨fun x => [av x.a, av x.b, av x.c]⟩
structure T4 (A B C D : Type) where
  (a : A) (b : B) (c : C) (d : D)
instance {A B C D : Type} [Rp A] [Rp B] [Rp C] [Rp D] : Places (T4 A B C D) := ⟨fun x => [av x.a, av x.b, av x.c, av x.d]⟩
structure T5 (A B C D E : Type) where
  (a : A) (b : B) (c : C) (d : D) (e : E)
instance {A B C D E : Type} [Rp A] [Rp B] [Rp C] [Rp D] [Rp E] : Places (T5 A B C D E) := ⟨fun x => [av x.a, av x.b, av x.c, av x.d, av x.e]⟩
/-- the law's script -/
structure Scr where
  ns : List Int
instance : Rp Scr where
  rp K H v x := ∃ a, v = .ref a ∧ SqL K H a (x.ns.map V.int)
  mono {K H H' v x} s h := by
    obtain ⟨a, e, h1⟩ := h
    exact ⟨a, e, s.seq h1⟩

/-! ### slots, states -/
inductive Slot : Type 1 where
  | non
  | val (T : Type) [Rp T] (x : T)
  | own (T : Type) [Rp T] (ao : Option Addr) (xs : List T)
inductive Rs (K : PySem.W.Frag) (Hs H : Hp) : List Slot → St → List Addr → Prop where
  | nil : Rs K Hs H [] [] []
  | non {ρ : List Slot} {σ : St} {as : List Addr} {o : Option V} : Rs K Hs H ρ σ as → Rs K Hs H (.non :: ρ) (o :: σ) as
  | val {ρ : List Slot} {σ : St} {as : List Addr} {T : Type} [Rp T] {x : T} {v : V} : rp K Hs v x → Rs K Hs H ρ σ as → Rs K Hs H (.val T x :: ρ) (some v :: σ) as
  | own {ρ : List Slot} {σ : St} {as : List Addr} {T : Type} [Rp T] {ao : Option Addr} {xs : List T} {a : Addr} {vs : List V} : (∀ b, ao = some b → b = a) → H a = some (.lst vs) → RpAll K Hs vs xs → Rs K Hs H ρ σ as →
      Rs K Hs H (.own T ao xs :: ρ) (some (.ref a) :: σ) (a :: as)
/-- the slots hold what ρ says; S: what callers keep for themselves; as: what is kept here; ads: the addresses of the kept slots -/
structure RS (K : PySem.W.Frag) (S : List Addr) (ρ : List Slot) (σ : St) (H : Hp) (as : List Addr) : Prop where
  rs : ∃ ads, Rs K (hide (S ++ as) H) H ρ σ ads ∧ ads.Nodup ∧ ∀ a ∈ ads, a ∈ as
  out : ∀ a ∈ as, a ∉ S
  dom : ∀ a ∈ S ++ as, H a ≠ none
section
variable {K : PySem.W.Frag} {S as as' : List Addr} {ρ : List Slot} {σ : St} {H H' Hs Hs' : Hp} {ads : List Addr}
theorem Rs.mono (r : Rs K Hs H ρ σ ads) (s1 : Same Hs Hs') (s2 : ∀ a ∈ ads, ∀ o, H a = some o → H' a = some o) : Rs K Hs' H' ρ σ ads := by
  induction r with
  | nil => exact .nil
  | @non ρ σ as o _ ih => exact Rs.non (o := o) (ih s2)
  | val h _ ih => exact .val (Rp.mono s1 h) (ih s2)
  | own h0 h1 h2 _ ih => exact .own h0 (s2 _ List.mem_cons_self _ h1) (RpAll.mono s1 h2) (ih fun a ha => s2 a (List.mem_cons_of_mem _ ha))
theorem Rs.length (r : Rs K Hs H ρ σ ads) : σ.length = ρ.length := by
  induction r with
  | nil => rfl
  | non _ ih => simp [ih]
  | val _ _ ih => simp [ih]
  | own _ _ _ _ ih => simp [ih]
theorem RS.mono (r : RS K S ρ σ H as) (s : Same H H') : RS K S ρ σ H' as := by
  obtain ⟨⟨ads, h1, h2, h3⟩, h4, h5⟩ := r
  exact ⟨⟨ads, h1.mono (hide_same s) fun a _ o e => s a o e, h2, h3⟩, h4, fun a ha => dom_same s (h5 a ha)⟩
theorem Rs.val_at (r : Rs K Hs H ρ σ ads) : ∀ {i : Nat} {T : Type} {inst : Rp T} {x : T}, ρ[i]? = some (@Slot.val T inst x) → ∃ v, σ[i]? = some (some v) ∧ rp K Hs v x := by
  induction r with
  | nil => intro i T inst x e; cases e
  | non _ ih =>
    intro i T inst x e
    cases i with
    | zero => cases e
    | succ i => exact ih e
  | val h _ ih =>
    intro i T inst x e
    cases i with
    | zero => cases e; exact ⟨_, rfl, h⟩
    | succ i => exact ih e
  | own _ _ _ _ ih =>
    intro i T inst x e
    cases i with
    | zero => cases e
    | succ i => exact ih e
theorem Rs.own_at (r : Rs K Hs H ρ σ ads) : ∀ {i : Nat} {T : Type} {inst : Rp T} {ao : Option Addr} {xs : List T}, ρ[i]? = some (@Slot.own T inst ao xs) →
    ∃ a vs, σ[i]? = some (some (.ref a)) ∧ a ∈ ads ∧ H a = some (.lst vs) ∧ RpAll K Hs vs xs ∧ ∀ b, ao = some b → b = a := by
  induction r with
  | nil => intro i T inst ao x e; cases e
  | non _ ih =>
    intro i T inst ao x e
    cases i with
    | zero => cases e
    | succ i => exact ih e
  | val h _ ih =>
    intro i T inst ao x e
    cases i with
    | zero => cases e
    | succ i => exact ih e
  | own h0 h1 h2 _ ih =>
    intro i T inst ao x e
    cases i with
    | zero => cases e; exact ⟨_, _, rfl, List.mem_cons_self, h1, h2, h0⟩
    | succ i =>
      obtain ⟨a, vs, e1, e2, e3, e4, e5⟩ := ih e
      exact ⟨a, vs, e1, List.mem_cons_of_mem _ e2, e3, e4, e5⟩
end

/-- what stands behind: all that was is as it was but what was kept; what is kept is new or was kept -/
structure Ext (as : List Addr) (H : Hp) (as' : List Addr) (H' : Hp) : Prop where
  same : ∀ b o, H b = some o → b ∉ as → H' b = some o
  dom : ∀ b, H b ≠ none → H' b ≠ none
  own : ∀ a ∈ as', a ∈ as ∨ H a = none
section
variable {as as1 as2 : List Addr} {H H1 H2 : Hp}
theorem Ext.of_same (s : Same H H1) : Ext as H as H1 := ⟨fun b o e _ => s b o e, fun b h => dom_same s h, fun a h => .inl h⟩
theorem Ext.refl : Ext as H as H := Ext.of_same (Same.refl H)
theorem Ext.trans (a : Ext as H as1 H1) (b : Ext as1 H1 as2 H2) : Ext as H as2 H2 where
  same c o e h := b.same c o (a.same c o e h) fun z => by
    rcases a.own c z with q | q
    · exact h q
    · rw [q] at e; cases e
  dom c h := b.dom c (a.dom c h)
  own c h := by
    rcases b.own c h with q | q
    · exact a.own c q
    · refine .inr ?_
      cases e : H c with
      | none => rfl
      | some o => exact absurd q (a.dom c (by rw [e]; intro z; cases z))
theorem Ext.nil_same (e : Ext [] H as1 H1) : Same H H1 := fun b o h => e.same b o h List.not_mem_nil
/-- what is in sight stays in sight -/
theorem Ext.sight {S : List Addr} (e : Ext as H as1 H1) (hS : ∀ a ∈ as1, H a = none → True) : Same (hide (S ++ as) H) (hide (S ++ as1) H1) := fun b o h => by
  obtain ⟨h1, h2⟩ := hide_some h
  have n1 : b ∉ S := fun z => h1 (List.mem_append_left _ z)
  have n2 : b ∉ as := fun z => h1 (List.mem_append_right _ z)
  have n3 : b ∉ as1 := fun z => by
    rcases e.own b z with q | q
    · exact n2 q
    · rw [q] at h2; cases h2
  rw [hide_out fun z => (List.mem_append.mp z).elim n1 n3]
  exact e.same b o h2 n2
end
end Py

set_option Elab.async false
set_option linter.all false
set_option maxRecDepth 100000
set_option maxHeartbeats 1000000
/-! Py, part B: judgements of expressions, tests, arguments; the rules. -/
namespace Py
open PySem PySem.Spec L2
open Rp (rp)

structure CtxOk (X : Cx) (W : WX) (lv : Nat) : Prop where
  calm : X.calm = true
  nd : X.N.Nodup
  tk : L2N.Takes X W
  po : PassesOwn (model X.prog X.w) X.A X.env X.xe
  room : Room lv X.A

/-- an own error, as it stands -/
def ExR (K : PySem.W.Frag) (H : Hp) (c : Value) (d : Option Addr) (e : Ex) : Prop :=
  c = .ref (He.ga K (Str.ofString e.cls)) ∧ ∃ dx fs, d = some dx ∧ H dx = some (.xd fs) ∧ Paired (fun (p : Str × V) (q : String × PyData) => p.1 = Str.ofString q.1 ∧ Dp K H p.2 q.2) fs e.fs
def ErrX (X : Cx) (W : WX) (S own : List Addr) (σ : St) (H : Hp) (e : Ex) : Prop := ∀ H' c d, Same H H' → ExR X.K (hide (S ++ own) H') c d e → W c d σ H'
theorem ErrX.mono {X : Cx} {W : WX} {S own : List Addr} {σ : St} {H H1 : Hp} {e : Ex} (h : ErrX X W S own σ H e) (s : Same H H1) : ErrX X W S own σ H1 e := fun H' c d s1 x => h H' c d (s.trans s1) x

/-- what is in sight of a value: all that is kept is out of sight, or only what the callers keep -/
def reg (g : Bool) (S own : List Addr) : List Addr := if g then S ++ own else S
theorem reg_sub {g : Bool} {S own : List Addr} : ∀ a, a ∈ reg g S own → a ∈ S ++ own := fun a h => by
  cases g with
  | true => exact h
  | false => exact List.mem_append_left _ h
theorem S_sub_reg {g : Bool} {S own : List Addr} : ∀ a, a ∈ S → a ∈ reg g S own := fun a h => by
  cases g with
  | true => exact List.mem_append_left _ h
  | false => exact h

abbrev EGp (X : Cx) (W : WX) (g : Bool) (ρ : List Slot) (t : TE) {T : Type} [Rp T] (m : Res T) : Prop :=
  ∀ (S own : List Addr) (σ : St) (H : Hp) (Q : VK), RS X.K S ρ σ H own → Post m (fun x => ∀ H' v, Same H H' → rp X.K (hide (reg g S own) H') v x → Q v H') (ErrX X W S own σ H) → t σ H Q
structure EG (X : Cx) (W : WX) (g : Bool) (ρ : List Slot) (e : Expr) {T : Type} [Rp T] (m : Res T) : Prop where
  ex : ∃ t, PE X e t ∧ EGp X W g ρ t m
abbrev EJ (X : Cx) (W : WX) (ρ : List Slot) (e : Expr) {T : Type} [Rp T] (m : Res T) : Prop := EG X W true ρ e m
abbrev EB (X : Cx) (W : WX) (ρ : List Slot) (e : Expr) {T : Type} [Rp T] (m : Res T) : Prop := EG X W false ρ e m

abbrev TJp (X : Cx) (W : WX) (ρ : List Slot) (t : TT) (m : Res Bool) : Prop :=
  ∀ (S own : List Addr) (σ : St) (H : Hp) (Q : Bool → Hp → Prop), RS X.K S ρ σ H own → Post m (fun b => ∀ H', Same H H' → Q b H') (ErrX X W S own σ H) → t σ H Q
structure TJ (X : Cx) (W : WX) (ρ : List Slot) (e : Expr) (m : Res Bool) : Prop where
  ex : ∃ t, PT X e t ∧ TJp X W ρ t m
structure TWJ (X : Cx) (W : WX) (ρ : List Slot) (e : Expr) (m : Res Bool) : Prop where
  ex : ∃ t, PW X e t ∧ TJp X W ρ t m

/-- a comparison -/
structure CJ (X : Cx) (W : WX) (ρ : List Slot) (op : CmpOp) (a b : Expr) (m : Res Bool) : Prop where
  ex : ∃ (r : R2) (ta tb : TE), OpR X (compareOp op) r ∧ behindInMarks op b = false ∧ PE X a ta ∧ PE X b tb ∧
    ∀ (S own : List Addr) (σ : St) (H : Hp) (Q : Bool → Hp → Prop) (R : V → Hp → Prop), RS X.K S ρ σ H own → Post m (fun x => ∀ H', Same H H' → Q x H') (ErrX X W S own σ H) → (∀ z H', Q z H' → R (.bl z) H') → tOp r ta tb σ H R
abbrev AJp (X : Cx) (W : WX) (g : Bool) (ρ : List Slot) (t : TA) {A R : Type} (as : A → List AV) (k : A → Res R) (m : Res R) : Prop :=
  ∀ (S own : List Addr) (σ : St) (H : Hp) (Q : List V → Hp → Prop) (P : R → Prop) (E : Ex → Prop), RS X.K S ρ σ H own → (∀ e, E e → ErrX X W S own σ H e) → Post m P E →
    (∀ x vs H', Same H H' → ArgsR X.K (hide (reg g S own) H') vs (as x) → Post (k x) P E → Q vs H') → t σ H Q
/-- arguments, evaluated ahead of k -/
structure AJ (X : Cx) (W : WX) (g : Bool) (ρ : List Slot) (es : List Expr) {A R : Type} (as : A → List AV) (k : A → Res R) (m : Res R) : Prop where
  ex : ∃ t, PA X es t ∧ AJp X W g ρ t as k m

section
variable {X : Cx} {W : WX} {g : Bool} {ρ : List Slot} {T A B C R : Type} [Rp T] [Rp A] [Rp B] [Rp C] [Rp R] {a b e : Expr} {pos : Pos} {lv : Nat}
theorem EG.borrow {m : Res T} (h : EG X W true ρ e m) : EG X W false ρ e m := by
  obtain ⟨t, p, q⟩ := h.ex
  refine ⟨t, p, fun S own σ H Q rs hp => q S own σ H Q rs (hp.imp (fun x hx H' v s r => hx H' v s (Rp.mono (hide_mono fun z hz => List.mem_append_left _ hz) r)) fun _ z => z)⟩
theorem EG.of_eq {m m' : Res T} (h : EG X W g ρ e m) (z : m = m') : EG X W g ρ e m' := z ▸ h
/-- a flat value is in sight everywhere -/
theorem EG.flat [Flat T] {g' : Bool} {m : Res T} (h : EG X W g ρ e m) : EG X W g' ρ e m := by
  obtain ⟨t, p, q⟩ := h.ex
  exact ⟨t, p, fun S own σ H Q rs hp => q S own σ H Q rs (hp.imp (fun x hx H' v s r => hx H' v s (Flat.any r)) fun _ z => z)⟩

/-! ### two parts, one part -/
theorem one_run {ga : Bool} {ta : TE} {ma : Res A} {f : A → Res C} {P : C → Prop} {S own : List Addr} {σ : St} {H : Hp} {R' : V → Hp → Prop} (ha : EGp X W ga ρ ta ma) (rs : RS X.K S ρ σ H own)
    (h : Post (ma.bind f) P (ErrX X W S own σ H)) (k : ∀ x v H', Same H H' → rp X.K (hide (reg ga S own) H') v x → Post (f x) P (ErrX X W S own σ H) → R' v H') : ta σ H R' :=
  ha S own σ H _ rs (h.bind.imp (fun x hx H1 v s1 r1 => k x v H1 s1 r1 hx) fun _ z => z)
theorem two_run {ga gb : Bool} {ta tb : TE} {ma : Res A} {mb : Res B} {f : A → B → Res C} {P : C → Prop} {S own : List Addr} {σ : St} {H : Hp} {R' : V → V → Hp → Prop} (ha : EGp X W ga ρ ta ma) (hb : EGp X W gb ρ tb mb) (rs : RS X.K S ρ σ H own)
    (h : Post (ma.bind fun x => mb.bind (f x)) P (ErrX X W S own σ H))
    (k : ∀ x y v u H', Same H H' → rp X.K (hide (reg ga S own) H') v x → rp X.K (hide (reg gb S own) H') u y → Post (f x y) P (ErrX X W S own σ H) → R' v u H') : ta σ H fun v H1 => tb σ H1 fun u H2 => R' v u H2 :=
  ha S own σ H _ rs (h.bind.imp (fun x hx H1 v s1 r1 => hb S own σ H1 _ (rs.mono s1) (hx.bind.imp (fun y hy H2 u s2 r2 => k x y v u H2 (s1.trans s2) (Rp.mono (hide_same s2) r1) r2 hy) fun _ z => z.mono s1)) fun _ z => z)

/-- an operator on two parts whose reading r leaves the heap and hands back a flat value -/
theorem e_binR {op : Operator} {r : R2} {f : A → B → Res C} [Flat C] {ma : Res A} {mb : Res B} (ho : OpR X (binaryOp op) r) (ha : EG X W true ρ a ma) (hb : EG X W true ρ b mb)
    (hr : ∀ (B1 B2 : List Addr) (H : Hp) (x : A) (y : B) (v u : V) (Q : VK), rp X.K (hide B1 H) v x → rp X.K (hide B2 H) u y → Post (f x y) (fun z => ∀ w', rp X.K H w' z → Q w' H) (fun _ => True) → r v u H Q)
    (hne : ∀ x y e, f x y ≠ .err e) : EG X W g ρ (.BinOp a op b pos) (ma.bind fun x => mb.bind (f x)) := by
  obtain ⟨ta, pa, qa⟩ := ha.ex
  obtain ⟨tb, pb, qb⟩ := hb.ex
  refine ⟨_, pe_op ho pa pb, fun S own σ H Q rs h => two_run qa qb rs h fun x y v u H2 s r1 r2 hp => hr _ _ H2 x y v u Q r1 r2 (hp.imp (fun z hz w' rw' => hz H2 w' s (Flat.any rw')) fun _ _ => trivial)⟩
theorem e_cmpR {op : CmpOp} {r : R2} {f : A → B → Res Bool} {ga gb : Bool} {ma : Res A} {mb : Res B} (ho : OpR X (compareOp op) r) (hm : behindInMarks op b = false) (ha : EG X W ga ρ a ma) (hb : EG X W gb ρ b mb)
    (hr : ∀ (B1 B2 : List Addr) (H : Hp) (x : A) (y : B) (v u : V) (Q : VK), rp X.K (hide B1 H) v x → rp X.K (hide B2 H) u y → Post (f x y) (fun z => Q (.bl z) H) (fun _ => True) → r v u H Q) :
    CJ X W ρ op a b (ma.bind fun x => mb.bind (f x)) := by
  obtain ⟨ta, pa, qa⟩ := ha.ex
  obtain ⟨tb, pb, qb⟩ := hb.ex
  refine ⟨r, ta, tb, ho, hm, pa, pb, fun S own σ H Q R rs h hR => two_run qa qb rs h fun x y v u H2 s r1 r2 hp => hr _ _ H2 x y v u R r1 r2 (hp.imp (fun z hz => hR z H2 (hz H2 s)) fun _ _ => trivial)⟩
theorem CJ.v {op : CmpOp} {m : Res Bool} (h : CJ X W ρ op a b m) : EG X W g ρ (.Compare a [op] [b] pos) m := by
  obtain ⟨r, ta, tb, ho, hm, pa, pb, q⟩ := h.ex
  exact ⟨_, pe_cmpR ho pa pb hm, fun S own σ H Q rs h => q S own σ H (fun z H' => Q (.bl z) H') Q rs (h.imp (fun x hx H' s => hx H' _ s rfl) fun _ z => z) fun z H' hz => hz⟩
theorem CJ.t {op : CmpOp} {m : Res Bool} (h : CJ X W ρ op a b m) : TJ X W ρ (.Compare a [op] [b] pos) m := by
  obtain ⟨r, ta, tb, ho, hm, pa, pb, q⟩ := h.ex
  exact ⟨_, pt_cmpR ho pa pb hm, fun S own σ H Q rs h => q S own σ H Q _ rs h fun z H' hz => ⟨z, rfl, hz⟩⟩
theorem CJ.of_eq {op : CmpOp} {m m' : Res Bool} (h : CJ X W ρ op a b m) (z : m = m') : CJ X W ρ op a b m' := z ▸ h

/-! ### names, constants -/
theorem e_var (i : Nat) {x : Str} {v : T} (hr : ρ[i]? = some (Slot.val T v) := by rfl) (hN : X.N[i]? = some x := by rfl) (hv : Vis X.env.scope x := by first | exact Or.inl rfl | exact Or.inr (Or.inl rfl) | exact Or.inr (Or.inr rfl))
    (hd : (x == ("__debug__" : Str)) = false := by decide) (hcd : (x == ("__classdict__" : Str)) = false := by decide) : EG X W g ρ (.Name x pos) (.ok v) := by
  refine ⟨_, pe_var hN hv hd hcd, fun S own σ H Q rs h => ?_⟩
  obtain ⟨ads, r, _, _⟩ := rs.rs
  obtain ⟨u, e, q⟩ := r.val_at hr
  exact ⟨u, e, h H u (Same.refl H) (Rp.mono (hide_mono reg_sub) q)⟩
/-- a kept list, lent -/
theorem e_own (i : Nat) {x : Str} {ao : Option Addr} {xs : List T} (hr : ρ[i]? = some (Slot.own T ao xs) := by rfl) (hN : X.N[i]? = some x := by rfl) (hv : Vis X.env.scope x := by first | exact Or.inl rfl | exact Or.inr (Or.inl rfl) | exact Or.inr (Or.inr rfl))
    (hd : (x == ("__debug__" : Str)) = false := by decide) (hcd : (x == ("__classdict__" : Str)) = false := by decide) : EG X W false ρ (.Name x pos) (.ok xs) := by
  refine ⟨_, pe_var hN hv hd hcd, fun S own σ H Q rs h => ?_⟩
  obtain ⟨ads, r, _, h3⟩ := rs.rs
  obtain ⟨a, vs, e, e1, e2, e3, _⟩ := r.own_at hr
  refine ⟨_, e, h H (.ref a) (Same.refl H) ⟨a, vs, rfl, ?_, RpAll.mono (hide_mono fun z hz => List.mem_append_left _ hz) e3⟩⟩
  show hide S H a = _
  rw [hide_out (rs.out a (h3 a e1))]
  exact e2
theorem e_const {v : V} {x : T} {e : Expr} (p : PE X e (tC v)) (h : ∀ H, rp X.K H v x) : EG X W g ρ e (.ok x) :=
  ⟨_, p, fun S own σ H Q rs q => q H v (Same.refl H) (h _)⟩
theorem e_int {i : Int} {j} : EG X W g ρ (.Constant (.int i) j pos) (.ok i) := e_const pe_int fun _ => rfl
theorem e_bool {i : Bool} {j} : EG X W g ρ (.Constant (.bool i) j pos) (.ok i) := e_const pe_bl fun _ => rfl
theorem e_str {i : Str} {j} : EG X W g ρ (.Constant (.str i) j pos) (.ok i) := e_const pe_str fun _ => rfl
theorem e_none {j} : EG X W g ρ (.Constant .none j pos) (.ok ()) := e_const pe_non fun _ => rfl
theorem e_gstr {x z : Str} (hm : ∃ t, X.mg x = some (.str z t)) (hg : Gl X x := by rfl) (hd : (x == ("__debug__" : Str)) = false := by decide) : EG X W g ρ (.Name x pos) (.ok z) := by
  obtain ⟨t, e⟩ := hm
  exact e_const (v := .str z) (pe_glob hg e ⟨t, rfl⟩ hd) fun _ => rfl
theorem e_gint {x : Str} {z : Int} (hm : ∃ t, X.mg x = some (.int z t)) (hg : Gl X x := by rfl) (hd : (x == ("__debug__" : Str)) = false := by decide) : EG X W g ρ (.Name x pos) (.ok z) := by
  obtain ⟨t, e⟩ := hm
  exact e_const (v := .int z) (pe_glob hg e ⟨t, rfl⟩ hd) fun _ => rfl
/-- a tuple of the module's top -/
theorem e_gtup {x : Str} {vs : List V} {z : Tup T} (hm : X.mg x = some (.ref (He.ga X.K x))) (hs : ∀ H, SqT X.K H (He.ga X.K x) vs) (hz : ∀ H, RpAll X.K H vs z.l) (hg : Gl X x := by rfl) (hd : (x == ("__debug__" : Str)) = false := by decide) : EG X W g ρ (.Name x pos) (.ok z) :=
  e_const (v := .ref (He.ga X.K x)) (pe_glob hg hm rfl hd) fun H => ⟨_, vs, rfl, hs H, hz H⟩

/-! ### whole numbers -/
/-- a product that the model takes -/
def mulOk (x y : Int) : Bool := (decide (-(2 ^ 64) < x) && decide (x < 2 ^ 64)) || (decide (-(2 ^ 64) < y) && decide (y < 2 ^ 64)) || decide (x.natAbs.log2 + y.natAbs.log2 < 1000000)
def mulM (x y : Int) : Res Int := guardR (mulOk x y) (.ok (x * y))
theorem op_mulA : OpR X (binaryOp .Mult) (rI (fun i j => mulOk i j = true) fun i j => .int (i * j)) := by
  have o : OpR X (binaryOp .Mult) (fun x y H Q => rI CMul (fun i j => .int (i * j)) x y H Q ∨ rI CMulW (fun i j => .int (i * j)) x y H Q) := op_mul.or op_mulW
  intro pins s σ H x y v u Q I rx ry hr
  refine o pins s σ H x y v u Q I rx ry ?_
  obtain ⟨i, j, e1, e2, c, q⟩ := hr
  unfold mulOk at c
  simp only [Bool.or_eq_true, Bool.and_eq_true, decide_eq_true_eq] at c
  rcases c with (c | c) | c
  · exact .inl ⟨i, j, e1, e2, .inl c, q⟩
  · exact .inl ⟨i, j, e1, e2, .inr c, q⟩
  · exact .inr ⟨i, j, e1, e2, c, q⟩
theorem e_add {ma mb : Res Int} (ha : EG X W true ρ a ma) (hb : EG X W true ρ b mb) : EG X W g ρ (.BinOp a .Add b pos) (ma.bind fun x => mb.bind fun y => .ok (x + y)) :=
  e_binR (f := fun x y => .ok (x + y)) op_add ha hb (fun _ _ H x y v u Q r1 r2 h => ⟨x, y, r1, r2, h _ rfl⟩) (fun _ _ _ h => nomatch h)
theorem e_sub {ma mb : Res Int} (ha : EG X W true ρ a ma) (hb : EG X W true ρ b mb) : EG X W g ρ (.BinOp a .Sub b pos) (ma.bind fun x => mb.bind fun y => .ok (x - y)) :=
  e_binR (f := fun x y => .ok (x - y)) op_sub ha hb (fun _ _ H x y v u Q r1 r2 h => ⟨x, y, r1, r2, h _ rfl⟩) (fun _ _ _ h => nomatch h)
theorem guard_ne {α : Type} {c : Bool} {x : α} (e : Ex) : guardR c (.ok x) ≠ Res.err e := by
  unfold guardR
  split <;> intro h <;> cases h
theorem e_mul {ma mb : Res Int} (ha : EG X W true ρ a ma) (hb : EG X W true ρ b mb) : EG X W g ρ (.BinOp a .Mult b pos) (ma.bind fun x => mb.bind fun y => mulM x y) :=
  e_binR (f := mulM) op_mulA ha hb (fun _ _ H x y v u Q r1 r2 h => ⟨x, y, r1, r2, h.guard.1, h.guard.2 _ rfl⟩) (fun _ _ e => guard_ne e)
/-- floor division by what is not 0 and of at most 9000 bits -/
def divOk (y : Int) : Bool := decide (y ≠ 0) && decide (y.natAbs.log2 < 9000)
def divM (x y : Int) : Res Int := guardR (divOk y) (.ok (x.fdiv y))
theorem op_fdivA : OpR X (binaryOp .FloorDiv) (rI (fun _ j => divOk j = true) fun i j => .int (i.fdiv j)) := opI fun i j _ _ _ _ _ hc q => by
  unfold divOk at hc
  simp only [Bool.and_eq_true, decide_eq_true_eq] at hc
  exact PyProof.Rows.floordiv_int hc.1 q (.inl (PyProof.noPylong_of_log2 hc.2))
theorem e_fdiv {ma mb : Res Int} (ha : EG X W true ρ a ma) (hb : EG X W true ρ b mb) : EG X W g ρ (.BinOp a .FloorDiv b pos) (ma.bind fun x => mb.bind fun y => divM x y) :=
  e_binR (f := divM) op_fdivA ha hb (fun _ _ H x y v u Q r1 r2 h => ⟨x, y, r1, r2, h.guard.1, h.guard.2 _ rfl⟩) (fun _ _ e => guard_ne e)
def modM (x y : Int) : Res Int := guardR (decide (y ≠ 0)) (.ok (x.fmod y))
theorem e_mod {ma mb : Res Int} (ha : EG X W true ρ a ma) (hb : EG X W true ρ b mb) : EG X W g ρ (.BinOp a .Mod b pos) (ma.bind fun x => mb.bind fun y => modM x y) :=
  e_binR (f := modM) op_modN ha hb (fun _ _ H x y v u Q r1 r2 h => ⟨x, y, r1, r2, of_decide_eq_true h.guard.1, h.guard.2 _ rfl⟩) (fun _ _ e => guard_ne e)
def powM (x y : Int) : Res Int := guardR (decide (0 ≤ y) && (decide (y ≤ 1000000) && decide (x.natAbs < 2 ^ 64))) (.ok (x ^ y.toNat))
theorem e_pow {ma mb : Res Int} (ha : EG X W true ρ a ma) (hb : EG X W true ρ b mb) : EG X W g ρ (.BinOp a .Pow b pos) (ma.bind fun x => mb.bind fun y => powM x y) :=
  e_binR (f := powM) op_pow ha hb (fun _ _ H x y v u Q r1 r2 h => ⟨x, y, r1, r2, by
    have c := h.guard.1
    simp only [Bool.and_eq_true, decide_eq_true_eq] at c
    exact c, h.guard.2 _ rfl⟩) (fun _ _ e => guard_ne e)
theorem e_unR {op : UnaryOp} {r : V → Hp → VK → Prop} {f : A → Res C} [Flat C] {ma : Res A} (ho : UnR X (unaryOp op) r) (ha : EG X W true ρ a ma)
    (hr : ∀ (B1 : List Addr) (H : Hp) (x : A) (v : V) (Q : VK), rp X.K (hide B1 H) v x → Post (f x) (fun z => ∀ w', rp X.K H w' z → Q w' H) (fun _ => True) → r v H Q) : EG X W g ρ (.UnaryOp op a pos) (ma.bind f) := by
  obtain ⟨ta, pa, qa⟩ := ha.ex
  refine ⟨_, pe_un ho pa, fun S own σ H Q rs h => one_run (R' := fun v H2 => r v H2 Q) qa rs h fun x v H2 s r1 hp => hr _ H2 x v Q r1 (hp.imp (fun z hz w' rw' => hz H2 w' s (Flat.any rw')) fun _ _ => trivial)⟩
theorem e_neg {ma : Res Int} (ha : EG X W true ρ a ma) : EG X W g ρ (.UnaryOp .USub a pos) (ma.bind fun x => .ok (-x)) :=
  e_unR (f := fun x => .ok (-x)) un_neg ha (fun _ H x v Q r1 h => ⟨x, r1, h _ rfl⟩)

/-! ### comparisons -/
theorem e_lt {ma mb : Res Int} (ha : EG X W true ρ a ma) (hb : EG X W true ρ b mb) : CJ X W ρ .Lt a b (ma.bind fun x => mb.bind fun y => .ok (decide (x < y))) :=
  e_cmpR (f := fun x y => .ok (decide (x < y))) op_lt (nomark _) ha hb (fun _ _ H x y v u Q r1 r2 h => ⟨x, y, r1, r2, h⟩)
theorem e_le {ma mb : Res Int} (ha : EG X W true ρ a ma) (hb : EG X W true ρ b mb) : CJ X W ρ .LtE a b (ma.bind fun x => mb.bind fun y => .ok (decide (x ≤ y))) :=
  e_cmpR (f := fun x y => .ok (decide (x ≤ y))) op_le (nomark _) ha hb (fun _ _ H x y v u Q r1 r2 h => ⟨x, y, r1, r2, h⟩)
theorem e_gt {ma mb : Res Int} (ha : EG X W true ρ a ma) (hb : EG X W true ρ b mb) : CJ X W ρ .Gt a b (ma.bind fun x => mb.bind fun y => .ok (decide (y < x))) :=
  e_cmpR (f := fun x y => .ok (decide (y < x))) op_gt (nomark _) ha hb (fun _ _ H x y v u Q r1 r2 h => ⟨x, y, r1, r2, h⟩)
theorem e_ge {ma mb : Res Int} (ha : EG X W true ρ a ma) (hb : EG X W true ρ b mb) : CJ X W ρ .GtE a b (ma.bind fun x => mb.bind fun y => .ok (decide (y ≤ x))) :=
  e_cmpR (f := fun x y => .ok (decide (y ≤ x))) op_ge (nomark _) ha hb (fun _ _ H x y v u Q r1 r2 h => ⟨x, y, r1, r2, h⟩)
/-- kinds whose values are compared by what they are -/
class Scal (T : Type) [Rp T] [DecidableEq T] where
  toV : T → V
  sc : ∀ x y : T, scal (toV x) (toV y) = true
  rel : ∀ {K : PySem.W.Frag} {H : Hp} {v : V} {x : T}, rp K H v x → v = toV x
  inj : ∀ x y : T, toV x = toV y → x = y
instance : Scal Int := { toV := .int, sc := fun _ _ => rfl, rel := fun h => h, inj := fun _ _ h => V.int.inj h }
instance : Scal Bool := { toV := .bl, sc := fun _ _ => rfl, rel := fun h => h, inj := fun _ _ h => V.bl.inj h }
instance : Scal Str := { toV := .str, sc := fun _ _ => rfl, rel := fun h => h, inj := fun _ _ h => V.str.inj h }
theorem Scal.dec {T : Type} [Rp T] [DecidableEq T] [Scal T] (x y : T) : decide (Scal.toV x = Scal.toV y) = decide (x = y) := by
  by_cases h : x = y
  · rw [h, decide_eq_true rfl, decide_eq_true rfl]
  · rw [decide_eq_false h, decide_eq_false fun z => h (Scal.inj x y z)]
theorem e_eq [DecidableEq T] [Scal T] {ma mb : Res T} (ha : EG X W true ρ a ma) (hb : EG X W true ρ b mb) : CJ X W ρ .Eq a b (ma.bind fun x => mb.bind fun y => .ok (decide (x = y))) :=
  e_cmpR (f := fun x y => .ok (decide (x = y))) op_eq (nomark _) ha hb (fun _ _ H x y v u Q r1 r2 h => by
    rw [Scal.rel r1, Scal.rel r2]
    refine ⟨Scal.sc x y, ?_⟩
    rw [Scal.dec]
    exact h)
theorem e_ne [DecidableEq T] [Scal T] {ma mb : Res T} (ha : EG X W true ρ a ma) (hb : EG X W true ρ b mb) : CJ X W ρ .NotEq a b (ma.bind fun x => mb.bind fun y => .ok (!decide (x = y))) :=
  e_cmpR (f := fun x y => .ok (!decide (x = y))) op_ne (nomark _) ha hb (fun _ _ H x y v u Q r1 r2 h => by
    rw [Scal.rel r1, Scal.rel r2]
    refine ⟨Scal.sc x y, ?_⟩
    rw [Scal.dec]
    exact h)

/-! ### tests, and, or, not, if .. else -/
theorem t_val {m : Res Bool} (h : EG X W true ρ e m) (he : ∀ whole, isTrue e X.env whole = (do let v ← whole; standAt e.pos; holding [v] (truthy v)) := by intro _; rfl) : TJ X W ρ e m := by
  obtain ⟨t, p, q⟩ := h.ex
  refine ⟨_, pt_val p he, fun S own σ H Q rs hp => q S own σ H _ rs (hp.imp (fun x hx H' v s r => ⟨x, r, hx H' s⟩) fun _ z => z)⟩
theorem t_not {m : Res Bool} (h : TJ X W ρ a m) : TJ X W ρ (.UnaryOp .Not a pos) (m.bind fun b => .ok (!b)) := by
  obtain ⟨t, p, q⟩ := h.ex
  refine ⟨_, pt_not p, fun S own σ H Q rs hp => q S own σ H _ rs (hp.bind.imp (fun x hx H' s => hx H' s) fun _ z => z)⟩
theorem tw_and1 {m : Res Bool} (h : TJ X W ρ a m) : TWJ X W ρ (.BoolOp .And [a] pos) m := by
  obtain ⟨t, p, q⟩ := h.ex
  exact ⟨_, pw_and1 p, q⟩
theorem tw_or1 {m : Res Bool} (h : TJ X W ρ a m) : TWJ X W ρ (.BoolOp .Or [a] pos) m := by
  obtain ⟨t, p, q⟩ := h.ex
  exact ⟨_, pw_or1 p, q⟩
def andM (m n : Res Bool) : Res Bool := m.bind fun b => if b then n else .ok false
def orM (m n : Res Bool) : Res Bool := m.bind fun b => if b then .ok true else n
theorem andM_ok (x y : Bool) : andM (.ok x) (.ok y) = .ok (x && y) := by cases x <;> rfl
theorem orM_ok (x y : Bool) : orM (.ok x) (.ok y) = .ok (x || y) := by cases x <;> rfl
theorem and_run {ta tb : TT} {m n : Res Bool} {S own : List Addr} {σ : St} {H : Hp} {Q : Bool → Hp → Prop} (qa : TJp X W ρ ta m) (qb : TJp X W ρ tb n) (rs : RS X.K S ρ σ H own) (hp : Post (andM m n) (fun b => ∀ H', Same H H' → Q b H') (ErrX X W S own σ H)) : tAnd ta tb σ H Q :=
  qa S own σ H _ rs (hp.bind.imp (fun x hx H1 s => by
    cases x with
    | true =>
      show if true = true then _ else _
      rw [if_pos rfl]
      exact qb S own σ H1 Q (rs.mono s) (Post.imp (show Post n _ _ from hx) (fun y hy H2 s2 => hy H2 (s.trans s2)) fun _ z => z.mono s)
    | false =>
      show if false = true then _ else _
      rw [if_neg Bool.false_ne_true]
      exact hx H1 s) fun _ z => z)
theorem or_run {ta tb : TT} {m n : Res Bool} {S own : List Addr} {σ : St} {H : Hp} {Q : Bool → Hp → Prop} (qa : TJp X W ρ ta m) (qb : TJp X W ρ tb n) (rs : RS X.K S ρ σ H own) (hp : Post (orM m n) (fun b => ∀ H', Same H H' → Q b H') (ErrX X W S own σ H)) : tOr ta tb σ H Q :=
  qa S own σ H _ rs (hp.bind.imp (fun x hx H1 s => by
    cases x with
    | false =>
      show if false = true then _ else _
      rw [if_neg Bool.false_ne_true]
      exact qb S own σ H1 Q (rs.mono s) (Post.imp (show Post n _ _ from hx) (fun y hy H2 s2 => hy H2 (s.trans s2)) fun _ z => z.mono s)
    | true =>
      show if true = true then _ else _
      rw [if_pos rfl]
      exact hx H1 s) fun _ z => z)
theorem tw_and {m n : Res Bool} {rest : List Expr} (h : TJ X W ρ a m) (h2 : TWJ X W ρ (.BoolOp .And (b :: rest) pos) n) : TWJ X W ρ (.BoolOp .And (a :: b :: rest) pos) (andM m n) := by
  obtain ⟨ta, pa, qa⟩ := h.ex
  obtain ⟨tb, pb, qb⟩ := h2.ex
  exact ⟨_, pw_and pa pb, fun S own σ H Q rs hp => and_run qa qb rs hp⟩
theorem tw_or {m n : Res Bool} {rest : List Expr} (h : TJ X W ρ a m) (h2 : TWJ X W ρ (.BoolOp .Or (b :: rest) pos) n) : TWJ X W ρ (.BoolOp .Or (a :: b :: rest) pos) (orM m n) := by
  obtain ⟨ta, pa, qa⟩ := h.ex
  obtain ⟨tb, pb, qb⟩ := h2.ex
  exact ⟨_, pw_or pa pb, fun S own σ H Q rs hp => or_run qa qb rs hp⟩
theorem TWJ.pt {m : Res Bool} (h : TWJ X W ρ e m) : TJ X W ρ e m := by
  obtain ⟨t, p, q⟩ := h.ex
  exact ⟨t, PW.pt p, q⟩
theorem e_and1 {op} {m : Res Bool} (h : EG X W true ρ a m) : EG X W g ρ (.BoolOp op [a] pos) m := by
  obtain ⟨t, p, q⟩ := (h.flat (g' := g)).ex
  exact ⟨_, pe_one p, q⟩
theorem e_and {m n : Res Bool} {rest : List Expr} (h : EG X W true ρ a m) (h2 : EG X W true ρ (.BoolOp .And (b :: rest) pos) n) : EG X W g ρ (.BoolOp .And (a :: b :: rest) pos) (andM m n) := by
  obtain ⟨ta, pa, qa⟩ := h.ex
  obtain ⟨tb, pb, qb⟩ := h2.ex
  refine ⟨_, pe_and pa pb, fun S own σ H Q rs hp => qa S own σ H _ rs (hp.bind.imp (fun x hx H1 v s r => ⟨x, r, ?_⟩) fun _ z => z)⟩
  cases x with
  | true =>
    rw [if_pos rfl]
    exact qb S own σ H1 Q (rs.mono s) (Post.imp (show Post n _ _ from hx) (fun y hy H2 v s2 r2 => hy H2 v (s.trans s2) (Flat.any r2)) fun _ z => z.mono s)
  | false =>
    rw [if_neg Bool.false_ne_true]
    exact hx H1 (.bl false) s rfl
theorem e_or {m n : Res Bool} {rest : List Expr} (h : EG X W true ρ a m) (h2 : EG X W true ρ (.BoolOp .Or (b :: rest) pos) n) : EG X W g ρ (.BoolOp .Or (a :: b :: rest) pos) (orM m n) := by
  obtain ⟨ta, pa, qa⟩ := h.ex
  obtain ⟨tb, pb, qb⟩ := h2.ex
  refine ⟨_, pe_or pa pb, fun S own σ H Q rs hp => qa S own σ H _ rs (hp.bind.imp (fun x hx H1 v s r => ⟨x, r, ?_⟩) fun _ z => z)⟩
  cases x with
  | true =>
    rw [if_pos rfl]
    exact hx H1 (.bl true) s rfl
  | false =>
    rw [if_neg Bool.false_ne_true]
    exact qb S own σ H1 Q (rs.mono s) (Post.imp (show Post n _ _ from hx) (fun y hy H2 v s2 r2 => hy H2 v (s.trans s2) (Flat.any r2)) fun _ z => z.mono s)
theorem e_not {m : Res Bool} (h : EG X W true ρ a m) : EG X W g ρ (.UnaryOp .Not a pos) (m.bind fun b => .ok (!b)) := by
  obtain ⟨t, p, q⟩ := h.ex
  exact ⟨_, pe_not p, fun S own σ H Q rs hp => q S own σ H _ rs (hp.bind.imp (fun x hx H' v s r => ⟨x, r, hx H' _ s rfl⟩) fun _ z => z)⟩
theorem e_if {c : Expr} {mc : Res Bool} {m n : Res T} (hc : TJ X W ρ c mc) (h : EG X W g ρ a m) (h2 : EG X W g ρ b n) : EG X W g ρ (.IfExp c a b pos) (mc.bind fun k => if k then m else n) := by
  obtain ⟨tc, pc, qc⟩ := hc.ex
  obtain ⟨ta, pa, qa⟩ := h.ex
  obtain ⟨tb, pb, qb⟩ := h2.ex
  refine ⟨_, pe_ifExp pc pa pb, fun S own σ H Q rs hp => qc S own σ H _ rs (hp.bind.imp (fun x hx H1 s => ?_) fun _ z => z)⟩
  cases x with
  | true =>
    rw [if_pos rfl]
    exact qa S own σ H1 Q (rs.mono s) (Post.imp (show Post m _ _ from hx) (fun y hy H2 v s2 r2 => hy H2 v (s.trans s2) r2) fun _ z => z.mono s)
  | false =>
    rw [if_neg Bool.false_ne_true]
    exact qb S own σ H1 Q (rs.mono s) (Post.imp (show Post n _ _ from hx) (fun y hy H2 v s2 r2 => hy H2 v (s.trans s2) r2) fun _ z => z.mono s)

/-! ### arguments -/
theorem a_nil {k : Unit → Res R} : AJ X W g ρ [] asN k (k ()) :=
  ⟨_, pa_nil, fun S own σ H Q P E rs hE h q => q () [] H (Same.refl H) .nil h⟩
theorem a_cons {es : List Expr} {A : Type} {as : A → List AV} {k : T × A → Res R} {m1 : Res T} {m2 : T → Res R} (h1 : EG X W g ρ e m1) (h2 : ∀ x, AJ X W g ρ es as (fun xs => k (x, xs)) (m2 x))
    (hs : starEach (e :: es) X.env = (false, eval e X.env) :: starEach es X.env := by rfl) : AJ X W g ρ (e :: es) (asC as) k (m1.bind m2) := by
  obtain ⟨t1, p1, q1⟩ := h1.ex
  have dead : PA X es (fun _ _ _ => False) := ⟨fun _ _ _ _ _ _ _ h => h.elim⟩
  cases m1 with
  | bad => exact ⟨_, pa_cons p1 dead hs, fun S own σ H Q P E rs hE h q => h.elim⟩
  | err z => exact ⟨_, pa_cons p1 dead hs, fun S own σ H Q P E rs hE h q => q1 S own σ H _ rs (hE z h)⟩
  | ok x =>
    obtain ⟨t2, p2, q2⟩ := (h2 x).ex
    exact ⟨_, pa_cons p1 p2 hs, fun S own σ H Q P E rs hE h q => q1 S own σ H _ rs fun H1 v s1 r1 => q2 S own σ H1 _ P E (rs.mono s1) (fun e z => (hE e z).mono s1) h fun xs vs H2 s2 r2 hk =>
      q (x, xs) (v :: vs) H2 (s1.trans s2) (.cons (Rp.mono (hide_same s2) r1) r2) hk⟩
theorem a_consp {es : List Expr} {A : Type} {as : A → List AV} {k : T × A → Res R} {x : T} {m : Res R} (h1 : EG X W g ρ e (.ok x)) (h2 : AJ X W g ρ es as (fun xs => k (x, xs)) m)
    (hs : starEach (e :: es) X.env = (false, eval e X.env) :: starEach es X.env := by rfl) : AJ X W g ρ (e :: es) (asC as) k m := by
  obtain ⟨t1, p1, q1⟩ := h1.ex
  obtain ⟨t2, p2, q2⟩ := h2.ex
  exact ⟨_, pa_cons p1 p2 hs, fun S own σ H Q P E rs hE h q => q1 S own σ H _ rs fun H1 v s1 r1 => q2 S own σ H1 _ P E (rs.mono s1) (fun e z => (hE e z).mono s1) h fun xs vs H2 s2 r2 hk =>
      q (x, xs) (v :: vs) H2 (s1.trans s2) (.cons (Rp.mono (hide_same s2) r1) r2) hk⟩
/-! ### the same where the parts are values -/
variable {x y : Int} {p q : Bool}
theorem e_addp (ha : EG X W true ρ a (.ok x)) (hb : EG X W true ρ b (.ok y)) : EG X W g ρ (.BinOp a .Add b pos) (.ok (x + y)) := e_add ha hb
theorem e_subp (ha : EG X W true ρ a (.ok x)) (hb : EG X W true ρ b (.ok y)) : EG X W g ρ (.BinOp a .Sub b pos) (.ok (x - y)) := e_sub ha hb
theorem e_mulp (ha : EG X W true ρ a (.ok x)) (hb : EG X W true ρ b (.ok y)) : EG X W g ρ (.BinOp a .Mult b pos) (mulM x y) := e_mul ha hb
theorem e_fdivp (ha : EG X W true ρ a (.ok x)) (hb : EG X W true ρ b (.ok y)) : EG X W g ρ (.BinOp a .FloorDiv b pos) (divM x y) := e_fdiv ha hb
theorem e_modp (ha : EG X W true ρ a (.ok x)) (hb : EG X W true ρ b (.ok y)) : EG X W g ρ (.BinOp a .Mod b pos) (modM x y) := e_mod ha hb
theorem e_powp (ha : EG X W true ρ a (.ok x)) (hb : EG X W true ρ b (.ok y)) : EG X W g ρ (.BinOp a .Pow b pos) (powM x y) := e_pow ha hb
theorem e_negp (ha : EG X W true ρ a (.ok x)) : EG X W g ρ (.UnaryOp .USub a pos) (.ok (-x)) := e_neg ha
theorem e_ltp (ha : EG X W true ρ a (.ok x)) (hb : EG X W true ρ b (.ok y)) : CJ X W ρ .Lt a b (.ok (decide (x < y))) := e_lt ha hb
theorem e_lep (ha : EG X W true ρ a (.ok x)) (hb : EG X W true ρ b (.ok y)) : CJ X W ρ .LtE a b (.ok (decide (x ≤ y))) := e_le ha hb
theorem e_gtp (ha : EG X W true ρ a (.ok x)) (hb : EG X W true ρ b (.ok y)) : CJ X W ρ .Gt a b (.ok (decide (y < x))) := e_gt ha hb
theorem e_gep (ha : EG X W true ρ a (.ok x)) (hb : EG X W true ρ b (.ok y)) : CJ X W ρ .GtE a b (.ok (decide (y ≤ x))) := e_ge ha hb
theorem e_eqp [DecidableEq T] [Scal T] {x y : T} (ha : EG X W true ρ a (.ok x)) (hb : EG X W true ρ b (.ok y)) : CJ X W ρ .Eq a b (.ok (decide (x = y))) := e_eq ha hb
theorem e_nep [DecidableEq T] [Scal T] {x y : T} (ha : EG X W true ρ a (.ok x)) (hb : EG X W true ρ b (.ok y)) : CJ X W ρ .NotEq a b (.ok (!decide (x = y))) := e_ne ha hb
theorem t_notp (h : TJ X W ρ a (.ok p)) : TJ X W ρ (.UnaryOp .Not a pos) (.ok (!p)) := t_not h
theorem tw_andp {rest : List Expr} (h : TJ X W ρ a (.ok p)) (h2 : TWJ X W ρ (.BoolOp .And (b :: rest) pos) (.ok q)) : TWJ X W ρ (.BoolOp .And (a :: b :: rest) pos) (.ok (p && q)) := andM_ok p q ▸ tw_and h h2
theorem tw_orp {rest : List Expr} (h : TJ X W ρ a (.ok p)) (h2 : TWJ X W ρ (.BoolOp .Or (b :: rest) pos) (.ok q)) : TWJ X W ρ (.BoolOp .Or (a :: b :: rest) pos) (.ok (p || q)) := orM_ok p q ▸ tw_or h h2
theorem e_andp {rest : List Expr} (h : EG X W true ρ a (.ok p)) (h2 : EG X W true ρ (.BoolOp .And (b :: rest) pos) (.ok q)) : EG X W g ρ (.BoolOp .And (a :: b :: rest) pos) (.ok (p && q)) := andM_ok p q ▸ e_and h h2
theorem e_orp {rest : List Expr} (h : EG X W true ρ a (.ok p)) (h2 : EG X W true ρ (.BoolOp .Or (b :: rest) pos) (.ok q)) : EG X W g ρ (.BoolOp .Or (a :: b :: rest) pos) (.ok (p || q)) := orM_ok p q ▸ e_or h h2
theorem e_notp (h : EG X W true ρ a (.ok p)) : EG X W g ρ (.UnaryOp .Not a pos) (.ok (!p)) := e_not h
theorem e_ifp {c : Expr} {u v : T} (hc : TJ X W ρ c (.ok p)) (h : EG X W g ρ a (.ok u)) (h2 : EG X W g ρ b (.ok v)) : EG X W g ρ (.IfExp c a b pos) (.ok (if p then u else v)) := by
  have := e_if (pos := pos) hc h h2
  cases p <;> exact this
end
end Py

set_option Elab.async false
set_option linter.all false
set_option maxRecDepth 100000
set_option maxHeartbeats 1000000
/-! Py, part C: tuples, lists, subscripts, slices, built-in calls, calls of defs. -/
namespace Py
open PySem PySem.Spec L2
open Rp (rp)

/-- a list whose items are in sight (it may itself be kept) -/
abbrev LGp (X : Cx) (W : WX) (ρ : List Slot) (t : TE) {T : Type} [Rp T] (m : Res (List T)) : Prop :=
  ∀ (S own : List Addr) (σ : St) (H : Hp) (Q : VK), RS X.K S ρ σ H own → Post m (fun xs => ∀ H' a vs, Same H H' → H' a = some (.lst vs) → RpAll X.K (hide (S ++ own) H') vs xs → Q (.ref a) H') (ErrX X W S own σ H) → t σ H Q
structure LG (X : Cx) (W : WX) (ρ : List Slot) (e : Expr) {T : Type} [Rp T] (m : Res (List T)) : Prop where
  ex : ∃ t, PE X e t ∧ LGp X W ρ t m
/-- a new list -/
abbrev FGp (X : Cx) (W : WX) (ρ : List Slot) (t : TE) {T : Type} [Rp T] (m : Res (List T)) : Prop :=
  ∀ (S own : List Addr) (σ : St) (H : Hp) (Q : VK), RS X.K S ρ σ H own → Post m (fun xs => ∀ H' a vs, Same H H' → H a = none → H' a = some (.lst vs) → RpAll X.K (hide (a :: (S ++ own)) H') vs xs → Q (.ref a) H') (ErrX X W S own σ H) → t σ H Q
structure FG (X : Cx) (W : WX) (ρ : List Slot) (e : Expr) {T : Type} [Rp T] (m : Res (List T)) : Prop where
  ex : ∃ t, PE X e t ∧ FGp X W ρ t m

theorem RS.fresh {K : PySem.W.Frag} {S own : List Addr} {ρ : List Slot} {σ : St} {H : Hp} {p : Addr} (rs : RS K S ρ σ H own) (h : H p = none) : p ∉ S ++ own := fun z => rs.dom p z h
theorem hide_new {B : List Addr} {H : Hp} {p : Addr} {o : HO} (h : H p = none) (hp : p ∉ B) : hide (p :: B) (upd H p o) = hide B H := by
  rw [hide_upd_in List.mem_cons_self, hide_cons_new h]
theorem RpAll.length {T : Type} [Rp T] {K : PySem.W.Frag} {H : Hp} {vs : List V} {xs : List T} (h : RpAll K H vs xs) : vs.length = xs.length := Paired.length h
theorem ArgsR.length {K : PySem.W.Frag} {H : Hp} {vs : List V} {xs : List AV} (h : ArgsR K H vs xs) : vs.length = xs.length := by
  induction h with
  | nil => rfl
  | cons _ _ ih => simp [ih]
theorem ArgsR.get {K : PySem.W.Frag} {H : Hp} {vs : List V} {xs : List AV} (h : ArgsR K H vs xs) : ∀ {i : Nat} {x : AV}, xs[i]? = some x → ∃ v, vs[i]? = some v ∧ x.rp K H v := by
  induction h with
  | nil => intro i x e; cases e
  | cons r _ ih =>
    intro i x e
    cases i with
    | zero => cases e; exact ⟨_, rfl, r⟩
    | succ i => exact ih e
theorem RpAll.get {T : Type} [Rp T] {K : PySem.W.Frag} {H : Hp} : ∀ {vs : List V} {xs : List T} {i : Nat} {x : T}, RpAll K H vs xs → xs[i]? = some x → ∃ v, vs[i]? = some v ∧ rp K H v x
  | _, _, 0, _, .cons r _, e => by cases e; exact ⟨_, rfl, r⟩
  | _, _, i + 1, _, .cons _ t, e => RpAll.get (i := i) t e
  | _, _, 0, _, .nil, e => by cases e
  | _, _, i + 1, _, .nil, e => by cases e
theorem RpAll.append {T : Type} [Rp T] {K : PySem.W.Frag} {H : Hp} : ∀ {vs us : List V} {xs ys : List T}, RpAll K H vs xs → RpAll K H us ys → RpAll K H (vs ++ us) (xs ++ ys)
  | _, _, _, _, .nil, h => h
  | _, _, _, _, .cons r t, h => .cons r (RpAll.append t h)
theorem RpAll.take {T : Type} [Rp T] {K : PySem.W.Frag} {H : Hp} : ∀ {vs : List V} {xs : List T} (n : Nat), RpAll K H vs xs → RpAll K H (vs.take n) (xs.take n)
  | _, _, 0, _ => .nil
  | _, _, n + 1, .nil => .nil
  | _, _, n + 1, .cons r t => .cons r (RpAll.take n t)
theorem RpAll.drop {T : Type} [Rp T] {K : PySem.W.Frag} {H : Hp} : ∀ {vs : List V} {xs : List T} (n : Nat), RpAll K H vs xs → RpAll K H (vs.drop n) (xs.drop n)
  | _, _, 0, h => h
  | _, _, n + 1, .nil => .nil
  | _, _, n + 1, .cons r t => RpAll.drop n t
theorem RpAll.set {T : Type} [Rp T] {K : PySem.W.Frag} {H : Hp} {v : V} {x : T} (r : rp K H v x) : ∀ {vs : List V} {xs : List T} (i : Nat), RpAll K H vs xs → RpAll K H (vs.set i v) (xs.set i x)
  | _, _, _, .nil => .nil
  | _, _, 0, .cons _ t => .cons r t
  | _, _, i + 1, .cons q t => .cons q (RpAll.set r i t)
theorem RpAll.reverse {T : Type} [Rp T] {K : PySem.W.Frag} {H : Hp} : ∀ {vs : List V} {xs : List T}, RpAll K H vs xs → RpAll K H vs.reverse xs.reverse
  | _, _, .nil => .nil
  | _, _, .cons r t => by
    rw [List.reverse_cons, List.reverse_cons]
    exact RpAll.append (RpAll.reverse t) (.cons r .nil)
theorem RpAll.int {K : PySem.W.Frag} {H : Hp} : ∀ {vs : List V} {xs : List Int}, RpAll K H vs xs → vs = xs.map V.int
  | _, _, .nil => rfl
  | _, _, .cons r t => by rw [List.map_cons, ← RpAll.int t, show _ = V.int _ from r]
theorem RpAll.of_int {K : PySem.W.Frag} {H : Hp} : ∀ (xs : List Int), RpAll K H (xs.map V.int) xs
  | [] => .nil
  | _ :: t => .cons rfl (RpAll.of_int t)
theorem RpAll.str {K : PySem.W.Frag} {H : Hp} : ∀ {vs : List V} {xs : List Str}, RpAll K H vs xs → vs = xs.map V.str
  | _, _, .nil => rfl
  | _, _, .cons r t => by rw [List.map_cons, ← RpAll.str t, show _ = V.str _ from r]
theorem RpAll.of_str {K : PySem.W.Frag} {H : Hp} : ∀ (xs : List Str), RpAll K H (xs.map V.str) xs
  | [] => .nil
  | _ :: t => .cons rfl (RpAll.of_str t)
theorem RpAll.bl {K : PySem.W.Frag} {H : Hp} : ∀ {vs : List V} {xs : List Bool}, RpAll K H vs xs → vs = xs.map V.bl
  | _, _, .nil => rfl
  | _, _, .cons r t => by rw [List.map_cons, ← RpAll.bl t, show _ = V.bl _ from r]
section
variable {X : Cx} {W : WX} {g : Bool} {ρ : List Slot} {T A B C R : Type} [Rp T] [Rp A] [Rp B] [Rp C] [Rp R] {a b e : Expr} {pos : Pos} {lv : Nat}
theorem EG.lg {m : Res (List T)} (h : EG X W true ρ e m) : LG X W ρ e m := by
  obtain ⟨t, p, q⟩ := h.ex
  refine ⟨t, p, fun S own σ H Q rs hp => q S own σ H Q rs (hp.imp (fun xs hx H' v s r => ?_) fun _ z => z)⟩
  obtain ⟨a, vs, rfl, e1, e2⟩ := r
  exact hx H' a vs s (hide_sub _ _ e1) e2
theorem l_own (i : Nat) {x : Str} {ao : Option Addr} {xs : List T} (hr : ρ[i]? = some (Slot.own T ao xs) := by rfl) (hN : X.N[i]? = some x := by rfl) (hv : Vis X.env.scope x := by first | exact Or.inl rfl | exact Or.inr (Or.inl rfl) | exact Or.inr (Or.inr rfl))
    (hd : (x == ("__debug__" : Str)) = false := by decide) (hcd : (x == ("__classdict__" : Str)) = false := by decide) : LG X W ρ (.Name x pos) (.ok xs) := by
  refine ⟨_, pe_var hN hv hd hcd, fun S own σ H Q rs h => ?_⟩
  obtain ⟨ads, r, _, h3⟩ := rs.rs
  obtain ⟨a, vs, e, e1, e2, e3, _⟩ := r.own_at hr
  exact ⟨_, e, h H a vs (Same.refl H) e2 e3⟩
theorem FG.ej {m : Res (List T)} (h : FG X W ρ e m) : EG X W g ρ e m := by
  obtain ⟨t, p, q⟩ := h.ex
  refine ⟨t, p, fun S own σ H Q rs hp => q S own σ H Q rs (hp.imp (fun xs hx H' a vs s na e1 e2 => hx H' _ s ⟨a, vs, rfl, ?_, RpAll.mono (hide_mono fun z hz => List.mem_cons_of_mem _ (reg_sub z hz)) e2⟩) fun _ z => z)⟩
  rw [hide_out fun z => rs.dom a (reg_sub a z) na]
  exact e1
theorem FG.lg {m : Res (List T)} (h : FG X W ρ e m) : LG X W ρ e m := EG.lg (FG.ej h)
theorem FG.of_eq {m m' : Res (List T)} (h : FG X W ρ e m) (z : m = m') : FG X W ρ e m' := z ▸ h

theorem lone_run {ta : TE} {ma : Res (List A)} {f : List A → Res C} {P : C → Prop} {S own : List Addr} {σ : St} {H : Hp} {R' : V → Hp → Prop} (ha : LGp X W ρ ta ma) (rs : RS X.K S ρ σ H own)
    (h : Post (ma.bind f) P (ErrX X W S own σ H)) (k : ∀ xs a vs H', Same H H' → H' a = some (.lst vs) → RpAll X.K (hide (S ++ own) H') vs xs → Post (f xs) P (ErrX X W S own σ H) → R' (.ref a) H') : ta σ H R' :=
  ha S own σ H _ rs (h.bind.imp (fun x hx H1 a vs s1 r1 r2 => k x a vs H1 s1 r1 r2 hx) fun _ z => z)
theorem ltwo_run {gb : Bool} {ta tb : TE} {ma : Res (List A)} {mb : Res B} {f : List A → B → Res C} {P : C → Prop} {S own : List Addr} {σ : St} {H : Hp} {R' : V → V → Hp → Prop} (ha : LGp X W ρ ta ma) (hb : EGp X W gb ρ tb mb) (rs : RS X.K S ρ σ H own)
    (h : Post (ma.bind fun x => mb.bind (f x)) P (ErrX X W S own σ H))
    (k : ∀ xs y a vs u H', Same H H' → H' a = some (.lst vs) → RpAll X.K (hide (S ++ own) H') vs xs → rp X.K (hide (reg gb S own) H') u y → Post (f xs y) P (ErrX X W S own σ H) → R' (.ref a) u H') : ta σ H fun v H1 => tb σ H1 fun u H2 => R' v u H2 :=
  ha S own σ H _ rs (h.bind.imp (fun x hx H1 a vs s1 r1 r2 => hb S own σ H1 _ (rs.mono s1) (hx.bind.imp (fun y hy H2 u s2 r3 => k x y a vs u H2 (s1.trans s2) (s2 _ _ r1) (RpAll.mono (hide_same s2) r2) r3 hy) fun _ z => z.mono s1)) fun _ z => z)

/-! ### displays -/
theorem e_tup {es : List Expr} {A T : Type} [Places T] {as : A → List AV} {mk : A → T} {m : Res T} {x1} (h : AJ X W g ρ es as (fun x => .ok (mk x)) m) (hp : ∀ x, Places.av (mk x) = as x := by intro _; rfl)
    (hz : ∀ x, (as x).length ≤ sizeLine := by intro _; exact Nat.le_of_ble_eq_true rfl) : EG X W g ρ (.Tuple es x1 pos) m := by
  obtain ⟨t, p, q⟩ := h.ex
  refine ⟨_, pe_tup p, fun S own σ H Q rs hP => q S own σ H _ _ _ rs (fun e z => z) hP fun x vs H' s r hx => ⟨by rw [r.length]; exact hz x, fun p np => ?_⟩⟩
  have s2 : Same H' (upd H' p (.tup vs)) := same_upd np
  refine hx _ _ (s.trans s2) ⟨p, vs, rfl, .inl (.inl ?_), ?_⟩
  · rw [hide_out fun z => (rs.mono s).dom p (reg_sub p z) np, upd_same]
  · rw [hp]
    exact r.mono (hide_same s2)
theorem args_all {K : PySem.W.Frag} {H : Hp} : ∀ {vs : List V} {xs : List T}, ArgsR K H vs (xs.map av) → RpAll K H vs xs
  | _, [], .nil => .nil
  | _, _ :: _, .cons r t => .cons r (args_all t)
theorem f_list {es : List Expr} {A : Type} {as : A → List AV} {mk : A → List T} {m : Res (List T)} (h : AJ X W true ρ es as (fun x => .ok (mk x)) m) (hp : ∀ x, as x = (mk x).map av := by intro _; rfl)
    (hz : ∀ x, (mk x).length ≤ sizeLine := by intro _; exact Nat.le_of_ble_eq_true rfl) : FG X W ρ (.List es pos) m := by
  obtain ⟨t, p, q⟩ := h.ex
  refine ⟨_, pe_lst p, fun S own σ H Q rs hP => q S own σ H _ _ _ rs (fun e z => z) hP fun x vs H' s r hx => ?_⟩
  rw [hp] at r
  have r2 := args_all r
  refine ⟨by rw [r2.length]; exact hz x, fun p np => ?_⟩
  refine hx (upd H' p (.lst vs)) p vs (s.trans (same_upd np)) (s.free np) upd_same ?_
  rw [hide_new np ((rs.mono s).fresh np)]
  exact r2

/-! ### subscripts -/
def idxM {α : Type} (xs : List α) (i : Int) : Res α := match atI xs i with
  | some x => .ok x
  | none => .bad
theorem atI_rel {K : PySem.W.Frag} {H : Hp} {vs : List V} {xs : List T} (r : RpAll K H vs xs) {i : Int} {x : T} (h : atI xs i = some x) : ∃ v, atI vs i = some v ∧ rp K H v x := by
  unfold atI at h ⊢
  rw [r.length]
  cases e : ixN xs.length i with
  | none => rw [e] at h; cases h
  | some j =>
    rw [e] at h
    exact r.get (show xs[j]? = some x from h)
theorem e_ix {ma : Res (List T)} {mb : Res Int} (ha : LG X W ρ a ma) (hb : EG X W true ρ b mb) (hs : PlainIx b := by exact fun _ _ => rfl) : EG X W g ρ (.Subscript a b pos) (ma.bind fun xs => mb.bind fun i => idxM xs i) := by
  obtain ⟨ta, pa, qa⟩ := ha.ex
  obtain ⟨tb, pb, qb⟩ := hb.ex
  refine ⟨_, pe_ix ix_list pa pb hs, fun S own σ H Q rs h => ltwo_run (R' := fun v u H2 => rIxL X.K v u H2 Q) qa qb rs h fun xs i p vs u H2 s r1 r2 r3 hp => ?_⟩
  unfold idxM at hp
  cases e : atI xs i with
  | none => rw [e] at hp; exact hp.elim
  | some x =>
    rw [e] at hp
    obtain ⟨v, e2, r4⟩ := atI_rel r2 e
    exact ⟨p, vs, i, v, rfl, r3, .inl (.inl r1), e2, hp H2 v s (Rp.mono (hide_mono reg_sub) r4)⟩
theorem e_ixt {ma : Res (Tup T)} {mb : Res Int} (ha : EG X W g ρ a ma) (hb : EG X W true ρ b mb) (hs : PlainIx b := by exact fun _ _ => rfl) : EG X W g ρ (.Subscript a b pos) (ma.bind fun xs => mb.bind fun i => idxM xs.l i) := by
  obtain ⟨ta, pa, qa⟩ := ha.ex
  obtain ⟨tb, pb, qb⟩ := hb.ex
  refine ⟨_, pe_ix ix_tup pa pb hs, fun S own σ H Q rs h => two_run (R' := fun v u H2 => rIxT X.K v u H2 Q) qa qb rs h fun xs i w' u H2 s r1 r3 hp => ?_⟩
  obtain ⟨p, vs, rfl, h1, r2⟩ := r1
  unfold idxM at hp
  cases e : atI xs.l i with
  | none => rw [e] at hp; exact hp.elim
  | some x =>
    rw [e] at hp
    obtain ⟨v, e2, r4⟩ := atI_rel r2 e
    exact ⟨p, vs, i, v, rfl, r3, SqT.same hide_sub h1, e2, hp H2 v s r4⟩
/-- a tuple's place -/
theorem e_pl {A : Type} [Places A] {j : Nat} {f : A → T} {ma : Res A} {c} {p2 : Pos} (ha : EG X W g ρ a ma) (hf : ∀ x, (Places.av x)[j]? = some (av (f x)) := by intro _; rfl) : EG X W g ρ (.Subscript a (.Constant (.int (j : Int)) c p2) pos) (ma.bind fun x => .ok (f x)) := by
  obtain ⟨ta, pa, qa⟩ := ha.ex
  refine ⟨_, pe_ix ix_tup pa pe_int (fun _ _ => rfl), fun S own σ H Q rs h => one_run (R' := fun v H2 => rIxT X.K v (.int (j : Int)) H2 Q) qa rs h fun x w' H2 s r1 hp => ?_⟩
  obtain ⟨p, vs, rfl, h1, r2⟩ := r1
  obtain ⟨v, e2, r4⟩ := r2.get (hf x)
  exact ⟨p, vs, (j : Int), v, rfl, rfl, SqT.same hide_sub h1, atI_nat e2, hp H2 v s r4⟩
theorem e_ixs {ma : Res Str} {mb : Res Int} (ha : EG X W true ρ a ma) (hb : EG X W true ρ b mb) (hs : PlainIx b := by exact fun _ _ => rfl) :
    EG X W g ρ (.Subscript a b pos) (ma.bind fun z => mb.bind fun i => guardR (decide (z.length ≤ sizeLine)) ((idxM z.cps.toList i).bind fun c => .ok (⟨#[c]⟩ : Str))) := by
  obtain ⟨ta, pa, qa⟩ := ha.ex
  obtain ⟨tb, pb, qb⟩ := hb.ex
  refine ⟨_, pe_ix ix_str pa pb hs, fun S own σ H Q rs h => two_run (R' := fun v u H2 => rIxS v u H2 Q) qa qb rs h fun z i w' u H2 s r1 r3 hp => ?_⟩
  obtain ⟨h1, hp⟩ := hp.guard
  unfold idxM at hp
  cases e : atI z.cps.toList i with
  | none => rw [e] at hp; exact hp.elim
  | some c =>
    rw [e] at hp
    exact ⟨z, i, c, r1, r3, of_decide_eq_true h1, e, hp H2 _ s rfl⟩
/-- the script -/
theorem e_ixscr {ma : Res Scr} {mb : Res Int} (ha : EG X W true ρ a ma) (hb : EG X W true ρ b mb) (hs : PlainIx b := by exact fun _ _ => rfl) : EG X W g ρ (.Subscript a b pos) (ma.bind fun z => mb.bind fun i => idxM z.ns i) := by
  obtain ⟨ta, pa, qa⟩ := ha.ex
  obtain ⟨tb, pb, qb⟩ := hb.ex
  refine ⟨_, pe_ix ix_list pa pb hs, fun S own σ H Q rs h => two_run (R' := fun v u H2 => rIxL X.K v u H2 Q) qa qb rs h fun z i w' u H2 s r1 r3 hp => ?_⟩
  obtain ⟨p, rfl, h1⟩ := r1
  unfold idxM at hp
  cases e : atI z.ns i with
  | none => rw [e] at hp; exact hp.elim
  | some x =>
    rw [e] at hp
    obtain ⟨v, e2, r4⟩ := atI_rel (RpAll.of_int (K := X.K) (H := H2) z.ns) e
    exact ⟨p, _, i, v, rfl, r3, hide_sub.seq h1, e2, hp H2 v s r4⟩

/-! ### slices -/
abbrev OGp (X : Cx) (W : WX) (ρ : List Slot) (t : TO) (m : Res (Option Int)) : Prop :=
  ∀ (S own : List Addr) (σ : St) (H : Hp) (Q : Option Int → Hp → Prop), RS X.K S ρ σ H own → Post m (fun x => ∀ H', Same H H' → Q x H') (ErrX X W S own σ H) → t σ H Q
structure OG (X : Cx) (W : WX) (ρ : List Slot) (e : Option Expr) (m : Res (Option Int)) : Prop where
  ex : ∃ t, PO X e t ∧ OGp X W ρ t m
theorem o_none : OG X W ρ none (.ok none) := ⟨_, po_none, fun S own σ H Q rs h => h H (Same.refl H)⟩
theorem o_some {m : Res Int} (h : EG X W true ρ e m) : OG X W ρ (some e) (m.bind fun i => .ok (some i)) := by
  obtain ⟨t, p, q⟩ := h.ex
  exact ⟨_, po_some p, fun S own σ H Q rs hp => q S own σ H _ rs (hp.bind.imp (fun x hx H' v s r => ⟨x, r, hx H' s⟩) fun _ z => z)⟩
def cut {α : Type} (xs : List α) (lo hi : Option Int) : List α := (xs.drop (HT.sIx xs.length 0 lo)).take (HT.sIx xs.length xs.length hi - HT.sIx xs.length 0 lo)
theorem cut_rel {K : PySem.W.Frag} {H : Hp} {vs : List V} {xs : List T} (r : RpAll K H vs xs) (lo hi : Option Int) : RpAll K H (cutV vs lo hi) (cut xs lo hi) := by
  unfold cutV cut
  rw [r.length]
  exact (r.drop _).take _
theorem f_slice {ma : Res (List T)} {ml mh : Res (Option Int)} {lo hi : Option Expr} {p2 : Pos} (ha : LG X W ρ e ma) (hl : OG X W ρ lo ml) (hh : OG X W ρ hi mh) :
    FG X W ρ (.Subscript e (.Slice lo hi none p2) pos) (ma.bind fun xs => ml.bind fun l => mh.bind fun h => .ok (cut xs l h)) := by
  obtain ⟨ta, pa, qa⟩ := ha.ex
  obtain ⟨tl, pl, ql⟩ := hl.ex
  obtain ⟨th, ph, qh⟩ := hh.ex
  refine ⟨_, pe_slice sl_list pa pl ph, fun S own σ H Q rs h => qa S own σ H _ rs (h.bind.imp (fun xs hx H1 a vs s1 r1 r2 => ql S own σ H1 _ (rs.mono s1) (hx.bind.imp (fun l hl2 H2 s2 => qh S own σ H2 _ ((rs.mono s1).mono s2) (hl2.bind.imp (fun u hu H3 s3 => ?_) fun _ z => (z.mono s1).mono s2)) fun _ z => z.mono s1)) fun _ z => z)⟩
  refine ⟨a, vs, rfl, .inl (.inl (s3 _ _ (s2 _ _ r1))), fun p np => ?_⟩
  have s4 := (s1.trans s2).trans s3
  refine hu (upd H3 p (.lst (cutV vs l u))) p _ (s4.trans (same_upd np)) (s4.free np) upd_same ?_
  rw [hide_new np ((rs.mono s4).fresh np)]
  exact cut_rel (RpAll.mono (hide_same (s2.trans s3)) r2) l u
theorem e_slstr {ma : Res Str} {ml mh : Res (Option Int)} {lo hi : Option Expr} {p2 : Pos} (ha : EG X W true ρ e ma) (hl : OG X W ρ lo ml) (hh : OG X W ρ hi mh) :
    EG X W g ρ (.Subscript e (.Slice lo hi none p2) pos) (ma.bind fun xs => ml.bind fun l => mh.bind fun h => guardR (decide (xs.length ≤ sizeLine)) (.ok (cutS xs l h))) := by
  obtain ⟨ta, pa, qa⟩ := ha.ex
  obtain ⟨tl, pl, ql⟩ := hl.ex
  obtain ⟨th, ph, qh⟩ := hh.ex
  refine ⟨_, pe_slice sl_str pa pl ph, fun S own σ H Q rs h => qa S own σ H _ rs (h.bind.imp (fun xs hx H1 v s1 r1 => ql S own σ H1 _ (rs.mono s1) (hx.bind.imp (fun l hl2 H2 s2 => qh S own σ H2 _ ((rs.mono s1).mono s2) (hl2.bind.imp (fun u hu H3 s3 => ?_) fun _ z => (z.mono s1).mono s2)) fun _ z => z.mono s1)) fun _ z => z)⟩
  obtain ⟨h1, hu⟩ := hu.guard
  exact ⟨xs, r1, of_decide_eq_true h1, hu H3 _ ((s1.trans s2).trans s3) rfl⟩

/-! ### built-in calls -/
theorem b_flat {x : Str} {p : Pos} {id : String} {r : List V → Hp → VK → Prop} {f : A → Res C} [Flat C] {ma : Res A} (hc : CallR X (.builtin id) r) (hm : X.mg x = none) (ha : EG X W true ρ a ma)
    (hr : ∀ (B1 : List Addr) (H : Hp) (x : A) (v : V) (Q : VK), rp X.K (hide B1 H) v x → Post (f x) (fun z => ∀ w', rp X.K H w' z → Q w' H) (fun _ => True) → r [v] H Q)
    (hv : bootBuiltins x = some (.builtin id) := by decide +kernel) (hg : Gl X x := by rfl) (hn : x ≠ "__name__" := by decide) (hdb : (x == ("__debug__" : Str)) = false := by decide)
    (he : starEach [a] X.env = (false, eval a X.env) :: starEach [] X.env := by rfl) (hpl : (backTo pos (starEach [] X.env)).any (·.1) = false := by rfl) : EG X W g ρ (.Call (.Name x p) [a] [] pos) (ma.bind f) := by
  obtain ⟨ta, pa, qa⟩ := ha.ex
  refine ⟨_, pe_callB hc hg hm hv (pa_cons pa pa_nil he) hn hdb he hpl, fun S own σ H Q rs h => one_run (R' := fun v H2 => r [v] H2 Q) qa rs h fun x v H2 s r1 hp => hr _ H2 x v Q r1 (hp.imp (fun z hz w' rw' => hz H2 w' s (Flat.any rw')) fun _ _ => trivial)⟩
theorem bt_flat {x : Str} {p : Pos} {id : String} {r : List V → Hp → VK → Prop} {f : A → Res C} [Flat C] {ma : Res A} (hc : CallR X (.type id) r) (hm : X.mg x = none) (ha : EG X W true ρ a ma)
    (hr : ∀ (B1 : List Addr) (H : Hp) (x : A) (v : V) (Q : VK), rp X.K (hide B1 H) v x → Post (f x) (fun z => ∀ w', rp X.K H w' z → Q w' H) (fun _ => True) → r [v] H Q)
    (hv : bootBuiltins x = some (.type id) := by decide +kernel) (hg : Gl X x := by rfl) (hn : x ≠ "__name__" := by decide) (hdb : (x == ("__debug__" : Str)) = false := by decide)
    (he : starEach [a] X.env = (false, eval a X.env) :: starEach [] X.env := by rfl) (hpl : (backTo pos (starEach [] X.env)).any (·.1) = false := by rfl) : EG X W g ρ (.Call (.Name x p) [a] [] pos) (ma.bind f) := by
  obtain ⟨ta, pa, qa⟩ := ha.ex
  refine ⟨_, pe_callTy hc hg hm hv (pa_cons pa pa_nil he) hn hdb he hpl, fun S own σ H Q rs h => one_run (R' := fun v H2 => r [v] H2 Q) qa rs h fun x v H2 s r1 hp => hr _ H2 x v Q r1 (hp.imp (fun z hz w' rw' => hz H2 w' s (Flat.any rw')) fun _ _ => trivial)⟩
/-- len -/
class Len (T : Type) [Rp T] where
  len : T → Res Int
  ok : ∀ {K : PySem.W.Frag} {B : List Addr} {H : Hp} {v : V} {x : T} {Q : Int → Prop}, rp K (hide B H) v x → Post (len x) Q (fun _ => True) → ∃ n : Nat, LenV K v H n ∧ Q n
instance : Len (List T) where
  len xs := .ok (xs.length : Int)
  ok {K B H v x Q} r h := by
    obtain ⟨a, vs, rfl, e1, e2⟩ := r
    exact ⟨x.length, .inl ⟨vs, .inl (.inl (hide_sub _ _ e1)), e2.length.symm⟩, h⟩
instance : Len (Tup T) where
  len xs := .ok (xs.l.length : Int)
  ok {K B H v x Q} r h := by
    obtain ⟨a, vs, rfl, e1, e2⟩ := r
    exact ⟨x.l.length, .inr ⟨vs, SqT.same hide_sub e1, e2.length.symm⟩, h⟩
instance : Len Scr where
  len xs := .ok (xs.ns.length : Int)
  ok {K B H v x Q} r h := by
    obtain ⟨a, rfl, e1⟩ := r
    exact ⟨x.ns.length, .inl ⟨_, hide_sub.seq e1, by rw [List.length_map]⟩, h⟩
instance : Len Str where
  len z := guardR (decide (z.length ≤ sizeLine)) (.ok (z.length : Int))
  ok {K B H v x Q} r h := by
    cases r
    obtain ⟨h1, h2⟩ := h.guard
    exact ⟨x.length, ⟨of_decide_eq_true h1, rfl⟩, h2⟩
instance (priority := low) {A : Type} [Places A] : Len A where
  len x := .ok ((Places.av x).length : Int)
  ok {K B H v x Q} r h := by
    obtain ⟨a, vs, rfl, e1, e2⟩ := r
    exact ⟨_, .inr ⟨vs, SqT.same hide_sub e1, e2.length.symm⟩, h⟩
theorem e_len {p : Pos} [Len A] {ma : Res A} (ha : EG X W true ρ a ma) (hm : X.mg "len" = none) (hg : Gl X "len" := by rfl)
    (he : starEach [a] X.env = (false, eval a X.env) :: starEach [] X.env := by rfl) (hpl : (backTo pos (starEach [] X.env)).any (·.1) = false := by rfl) : EG X W g ρ (.Call (.Name "len" p) [a] [] pos) (ma.bind Len.len) :=
  b_flat call_len hm ha (fun B1 H x v Q r h => by
    obtain ⟨n, h1, h2⟩ := Len.ok (Q := fun z => Q (.int z) H) r (h.imp (fun z hz => hz (.int z) rfl) fun _ z => z)
    exact ⟨v, n, rfl, h1, h2⟩) (by decide +kernel) hg (by decide) (by decide) he hpl
theorem e_int1 {p : Pos} {ma : Res Int} (ha : EG X W true ρ a ma) (hm : X.mg "int" = none) (hg : Gl X "int" := by rfl)
    (he : starEach [a] X.env = (false, eval a X.env) :: starEach [] X.env := by rfl) (hpl : (backTo pos (starEach [] X.env)).any (·.1) = false := by rfl) : EG X W g ρ (.Call (.Name "int" p) [a] [] pos) (ma.bind fun x => .ok x) :=
  bt_flat (f := fun x => .ok x) call_int1 hm ha (fun B1 H x v Q r h => by
    cases r
    exact .inl ⟨x, rfl, h _ rfl⟩) (by decide +kernel) hg (by decide) (by decide) he hpl
theorem e_abs {p : Pos} {ma : Res Int} (ha : EG X W true ρ a ma) (hm : X.mg "abs" = none) (hg : Gl X "abs" := by rfl)
    (he : starEach [a] X.env = (false, eval a X.env) :: starEach [] X.env := by rfl) (hpl : (backTo pos (starEach [] X.env)).any (·.1) = false := by rfl) : EG X W g ρ (.Call (.Name "abs" p) [a] [] pos) (ma.bind fun x => .ok (x.natAbs : Int)) :=
  b_flat (f := fun x => .ok (x.natAbs : Int)) call_abs hm ha (fun B1 H x v Q r h => by
    cases r
    refine ⟨x, rfl, ?_⟩
    have e : (if x < 0 then -x else x) = (x.natAbs : Int) := by split <;> omega
    rw [e]
    exact h _ rfl) (by decide +kernel) hg (by decide) (by decide) he hpl
theorem e_strint {p : Pos} {ma : Res Int} (ha : EG X W true ρ a ma) (hm : X.mg "str" = none) (hg : Gl X "str" := by rfl)
    (he : starEach [a] X.env = (false, eval a X.env) :: starEach [] X.env := by rfl) (hpl : (backTo pos (starEach [] X.env)).any (·.1) = false := by rfl) : EG X W g ρ (.Call (.Name "str" p) [a] [] pos) (ma.bind fun x => guardR (decide (x.natAbs.log2 < 1920)) (.ok (toString x : Str))) :=
  bt_flat (f := fun x => guardR (decide (x.natAbs.log2 < 1920)) (.ok (toString x : Str))) call_str_int hm ha (fun B1 H x v Q r h => by
    cases r
    obtain ⟨h1, h2⟩ := h.guard
    exact ⟨x, rfl, of_decide_eq_true h1, h2 _ rfl⟩) (by decide +kernel) hg (by decide) (by decide) he hpl
/-- a built-in over a list, its value flat -/
theorem b_list {x : Str} {p : Pos} {id : String} {r : List V → Hp → VK → Prop} {f : List A → Res C} [Flat C] {ma : Res (List A)} (hc : CallR X (.builtin id) r) (hm : X.mg x = none) (ha : LG X W ρ a ma)
    (hr : ∀ (B1 : List Addr) (H : Hp) (xs : List A) (p : Addr) (vs : List V) (Q : VK), H p = some (.lst vs) → RpAll X.K (hide B1 H) vs xs → Post (f xs) (fun z => ∀ w', rp X.K H w' z → Q w' H) (fun _ => True) → r [.ref p] H Q)
    (hv : bootBuiltins x = some (.builtin id) := by decide +kernel) (hg : Gl X x := by rfl) (hn : x ≠ "__name__" := by decide) (hdb : (x == ("__debug__" : Str)) = false := by decide)
    (he : starEach [a] X.env = (false, eval a X.env) :: starEach [] X.env := by rfl) (hpl : (backTo pos (starEach [] X.env)).any (·.1) = false := by rfl) : EG X W g ρ (.Call (.Name x p) [a] [] pos) (ma.bind f) := by
  obtain ⟨ta, pa, qa⟩ := ha.ex
  refine ⟨_, pe_callB hc hg hm hv (pa_cons pa pa_nil he) hn hdb he hpl, fun S own σ H Q rs h => lone_run (R' := fun v H2 => r [v] H2 Q) qa rs h fun xs a vs H2 s r1 r2 hp => hr _ H2 xs a vs Q r1 r2 (hp.imp (fun z hz w' rw' => hz H2 w' s (Flat.any rw')) fun _ _ => trivial)⟩
theorem e_sum {p : Pos} {ma : Res (List Int)} (hc : X.calm = true) (ha : LG X W ρ a ma) (hm : X.mg "sum" = none) (hg : Gl X "sum" := by rfl)
    (he : starEach [a] X.env = (false, eval a X.env) :: starEach [] X.env := by rfl) (hpl : (backTo pos (starEach [] X.env)).any (·.1) = false := by rfl) : EG X W g ρ (.Call (.Name "sum" p) [a] [] pos) (ma.bind fun xs => .ok xs.sum) :=
  b_list (f := fun xs => .ok xs.sum) (cr_sum hc) hm ha (fun B1 H xs p vs Q e r h => ⟨p, xs, rfl, .inl (.inl (r.int ▸ e)), h _ rfl⟩) (by decide +kernel) hg (by decide) (by decide) he hpl
theorem e_any {p : Pos} {ma : Res (List Bool)} (hc : X.calm = true) (ha : LG X W ρ a ma) (hm : X.mg "any" = none) (hg : Gl X "any" := by rfl)
    (he : starEach [a] X.env = (false, eval a X.env) :: starEach [] X.env := by rfl) (hpl : (backTo pos (starEach [] X.env)).any (·.1) = false := by rfl) : EG X W g ρ (.Call (.Name "any" p) [a] [] pos) (ma.bind fun xs => .ok (xs.any id)) :=
  b_list (f := fun xs => .ok (xs.any id)) (cr_any hc) hm ha (fun B1 H xs p vs Q e r h => ⟨p, xs, rfl, .inl (.inl (r.bl ▸ e)), h _ rfl⟩) (by decide +kernel) hg (by decide) (by decide) he hpl
theorem e_all {p : Pos} {ma : Res (List Bool)} (hc : X.calm = true) (ha : LG X W ρ a ma) (hm : X.mg "all" = none) (hg : Gl X "all" := by rfl)
    (he : starEach [a] X.env = (false, eval a X.env) :: starEach [] X.env := by rfl) (hpl : (backTo pos (starEach [] X.env)).any (·.1) = false := by rfl) : EG X W g ρ (.Call (.Name "all" p) [a] [] pos) (ma.bind fun xs => .ok (xs.all id)) :=
  b_list (f := fun xs => .ok (xs.all id)) (cr_all hc) hm ha (fun B1 H xs p vs Q e r h => ⟨p, xs, rfl, .inl (.inl (r.bl ▸ e)), h _ rfl⟩) (by decide +kernel) hg (by decide) (by decide) he hpl
theorem e_max2 {p : Pos} {ma mb : Res Int} (hc : X.calm = true) (ha : EG X W true ρ a ma) (hb : EG X W true ρ b mb) (hm : X.mg "max" = none) (hg : Gl X "max" := by rfl)
    (he : starEach [a, b] X.env = (false, eval a X.env) :: starEach [b] X.env := by rfl) (he2 : starEach [b] X.env = (false, eval b X.env) :: starEach [] X.env := by rfl) (hpl : (backTo pos (starEach [b] X.env)).any (·.1) = false := by rfl) :
    EG X W g ρ (.Call (.Name "max" p) [a, b] [] pos) (ma.bind fun x => mb.bind fun y => .ok (if y > x then y else x)) := by
  obtain ⟨ta, pa, qa⟩ := ha.ex
  obtain ⟨tb, pb, qb⟩ := hb.ex
  refine ⟨_, pe_callB (call_max2 hc) hg hm (by decide +kernel) (pa_cons pa (pa_cons pb pa_nil he2) he) (by decide) (by decide) he hpl, fun S own σ H Q rs h => two_run (R' := fun v u H2 => ∃ i j, [v, u] = [V.int i, V.int j] ∧ Q (.int (if j > i then j else i)) H2) qa qb rs h fun x y v u H2 s r1 r2 hp => ?_⟩
  cases r1
  cases r2
  exact ⟨x, y, rfl, hp H2 _ s rfl⟩
theorem e_min2 {p : Pos} {ma mb : Res Int} (hc : X.calm = true) (ha : EG X W true ρ a ma) (hb : EG X W true ρ b mb) (hm : X.mg "min" = none) (hg : Gl X "min" := by rfl)
    (he : starEach [a, b] X.env = (false, eval a X.env) :: starEach [b] X.env := by rfl) (he2 : starEach [b] X.env = (false, eval b X.env) :: starEach [] X.env := by rfl) (hpl : (backTo pos (starEach [b] X.env)).any (·.1) = false := by rfl) :
    EG X W g ρ (.Call (.Name "min" p) [a, b] [] pos) (ma.bind fun x => mb.bind fun y => .ok (if y < x then y else x)) := by
  obtain ⟨ta, pa, qa⟩ := ha.ex
  obtain ⟨tb, pb, qb⟩ := hb.ex
  refine ⟨_, pe_callB (call_min2 hc) hg hm (by decide +kernel) (pa_cons pa (pa_cons pb pa_nil he2) he) (by decide) (by decide) he hpl, fun S own σ H Q rs h => two_run (R' := fun v u H2 => ∃ i j, [v, u] = [V.int i, V.int j] ∧ Q (.int (if j < i then j else i)) H2) qa qb rs h fun x y v u H2 s r1 r2 hp => ?_⟩
  cases r1
  cases r2
  exact ⟨x, y, rfl, hp H2 _ s rfl⟩
theorem e_gcd {x : Str} {p : Pos} {ma mb : Res Int} (ha : EG X W true ρ a ma) (hb : EG X W true ρ b mb) (hm : X.mg x = some (.builtin "math.gcd")) (hg : Gl X x := by rfl) (hdb : (x == ("__debug__" : Str)) = false := by decide)
    (he : starEach [a, b] X.env = (false, eval a X.env) :: starEach [b] X.env := by rfl) (he2 : starEach [b] X.env = (false, eval b X.env) :: starEach [] X.env := by rfl) (hpl : (backTo pos (starEach [b] X.env)).any (·.1) = false := by rfl) :
    EG X W g ρ (.Call (.Name x p) [a, b] [] pos) (ma.bind fun x => mb.bind fun y => .ok ((Nat.gcd x.natAbs y.natAbs : Nat) : Int)) := by
  obtain ⟨ta, pa, qa⟩ := ha.ex
  obtain ⟨tb, pb, qb⟩ := hb.ex
  refine ⟨_, pe_callBfun cr_gcd hg hm (pa_cons pa (pa_cons pb pa_nil he2) he) hdb he hpl, fun S own σ H Q rs h => two_run (R' := fun v u H2 => rGcd [v, u] H2 Q) qa qb rs h fun x y v u H2 s r1 r2 hp => ?_⟩
  cases r1
  cases r2
  exact ⟨x, y, rfl, hp H2 _ s rfl⟩

/-! ### new lists, tuples by calls -/
theorem f_listof {p : Pos} {ma : Res (List T)} (ha : LG X W ρ a ma) (hm : X.mg "list" = none) (hg : Gl X "list" := by rfl)
    (he : starEach [a] X.env = (false, eval a X.env) :: starEach [] X.env := by rfl) (hpl : (backTo pos (starEach [] X.env)).any (·.1) = false := by rfl) : FG X W ρ (.Call (.Name "list" p) [a] [] pos) (ma.bind fun xs => .ok xs) := by
  obtain ⟨ta, pa, qa⟩ := ha.ex
  refine ⟨_, pe_callTy call_list_of hg hm (by decide +kernel) (pa_cons pa pa_nil he) (by decide) (by decide) he hpl, fun S own σ H Q rs h => lone_run (R' := fun v H2 => ∃ p ys, [v] = [V.ref p] ∧ (SqL X.K H2 p ys ∨ SqT X.K H2 p ys) ∧ ∀ l, H2 l = none → Q (.ref l) (upd H2 l (.lst ys))) qa rs h fun xs a vs H2 s r1 r2 hp => ?_⟩
  refine ⟨a, vs, rfl, .inl (.inl (.inl r1)), fun l nl => hp (upd H2 l (.lst vs)) l vs (s.trans (same_upd nl)) (s.free nl) upd_same ?_⟩
  rw [hide_new nl ((rs.mono s).fresh nl)]
  exact r2
theorem f_listoft {p : Pos} {ma : Res (Tup T)} (ha : EG X W true ρ a ma) (hm : X.mg "list" = none) (hg : Gl X "list" := by rfl)
    (he : starEach [a] X.env = (false, eval a X.env) :: starEach [] X.env := by rfl) (hpl : (backTo pos (starEach [] X.env)).any (·.1) = false := by rfl) : FG X W ρ (.Call (.Name "list" p) [a] [] pos) (ma.bind fun xs => .ok xs.l) := by
  obtain ⟨ta, pa, qa⟩ := ha.ex
  refine ⟨_, pe_callTy call_list_of hg hm (by decide +kernel) (pa_cons pa pa_nil he) (by decide) (by decide) he hpl, fun S own σ H Q rs h => one_run (R' := fun v H2 => ∃ p ys, [v] = [V.ref p] ∧ (SqL X.K H2 p ys ∨ SqT X.K H2 p ys) ∧ ∀ l, H2 l = none → Q (.ref l) (upd H2 l (.lst ys))) qa rs h fun xs v H2 s r1 hp => ?_⟩
  obtain ⟨a, vs, rfl, h1, r2⟩ := r1
  refine ⟨a, vs, rfl, .inr (SqT.same hide_sub h1), fun l nl => hp (upd H2 l (.lst vs)) l vs (s.trans (same_upd nl)) (s.free nl) upd_same ?_⟩
  rw [hide_new nl ((rs.mono s).fresh nl)]
  exact r2
theorem e_tupof {p : Pos} {ma : Res (List T)} (ha : LG X W ρ a ma) (hm : X.mg "tuple" = none) (hg : Gl X "tuple" := by rfl)
    (he : starEach [a] X.env = (false, eval a X.env) :: starEach [] X.env := by rfl) (hpl : (backTo pos (starEach [] X.env)).any (·.1) = false := by rfl) : EG X W g ρ (.Call (.Name "tuple" p) [a] [] pos) (ma.bind fun xs => .ok (⟨xs⟩ : Tup T)) := by
  obtain ⟨ta, pa, qa⟩ := ha.ex
  refine ⟨_, pe_callTy call_tuple_of hg hm (by decide +kernel) (pa_cons pa pa_nil he) (by decide) (by decide) he hpl, fun S own σ H Q rs h => lone_run (R' := fun v H2 => ∃ p ys, [v] = [V.ref p] ∧ ((SqL X.K H2 p ys ∧ ∀ l, H2 l = none → Q (.ref l) (upd H2 l (.tup ys))) ∨ (SqT X.K H2 p ys ∧ Q (.ref p) H2))) qa rs h fun xs a vs H2 s r1 r2 hp => ?_⟩
  refine ⟨a, vs, rfl, .inl ⟨.inl (.inl r1), fun l nl => hp _ (.ref l) (s.trans (same_upd nl)) ⟨l, vs, rfl, .inl (.inl ?_), ?_⟩⟩⟩
  · rw [hide_out fun z => (rs.mono s).dom l (reg_sub l z) nl, upd_same]
  · exact RpAll.mono (hide_same (same_upd nl)) (RpAll.mono (hide_mono reg_sub) r2)
theorem f_cat {ma mb : Res (List T)} (ha : LG X W ρ a ma) (hb : LG X W ρ b mb) : FG X W ρ (.BinOp a .Add b pos) (ma.bind fun xs => mb.bind fun ys => guardR (decide (xs.length + ys.length ≤ sizeLine)) (.ok (xs ++ ys))) := by
  obtain ⟨ta, pa, qa⟩ := ha.ex
  obtain ⟨tb, pb, qb⟩ := hb.ex
  refine ⟨_, pe_op op_cat pa pb, fun S own σ H Q rs h => qa S own σ H _ rs (h.bind.imp (fun xs hx H1 l vs s1 r1 r2 => qb S own σ H1 _ (rs.mono s1) (hx.bind.imp (fun ys hy H2 k us s2 r3 r4 => ?_) fun _ z => z.mono s1)) fun _ z => z)⟩
  obtain ⟨h1, hy⟩ := hy.guard
  have s := s1.trans s2
  refine ⟨l, k, vs, us, rfl, rfl, s2 _ _ r1, r3, by rw [r2.length, r4.length]; exact of_decide_eq_true h1, fun p np => hy (upd H2 p (.lst (vs ++ us))) p _ (s.trans (same_upd np)) (s.free np) upd_same ?_⟩
  rw [hide_new np ((rs.mono s).fresh np)]
  exact (RpAll.mono (hide_same s2) r2).append r4
theorem RpAll.rep {K : PySem.W.Frag} {H : Hp} {vs : List V} {xs : List T} (r : RpAll K H vs xs) : ∀ k : Nat, RpAll K H (List.replicate k vs).flatten (List.replicate k xs).flatten
  | 0 => .nil
  | k + 1 => by
    rw [List.replicate_succ, List.replicate_succ, List.flatten_cons, List.flatten_cons]
    exact r.append (RpAll.rep r k)
def repM {α : Type} (xs : List α) (k : Int) : Res (List α) := guardR (decide (-(2 ^ 63) ≤ k) && (decide (k < 2 ^ 63) && decide (xs.length * k.toNat ≤ sizeLine))) (.ok (List.replicate k.toNat xs).flatten)
theorem f_rep {ma : Res (List T)} {mb : Res Int} (ha : LG X W ρ a ma) (hb : EG X W true ρ b mb) : FG X W ρ (.BinOp a .Mult b pos) (ma.bind fun xs => mb.bind fun k => repM xs k) := by
  obtain ⟨ta, pa, qa⟩ := ha.ex
  obtain ⟨tb, pb, qb⟩ := hb.ex
  refine ⟨_, pe_op op_rep pa pb, fun S own σ H Q rs h => ltwo_run (R' := fun v u H2 => rRep v u H2 Q) qa qb rs h fun xs k l vs u H2 s r1 r2 r3 hp => ?_⟩
  obtain ⟨h1, hp⟩ := hp.guard
  simp only [Bool.and_eq_true, decide_eq_true_eq] at h1
  refine ⟨l, k, vs, rfl, r3, r1, h1.1, h1.2.1, by rw [r2.length]; exact h1.2.2, fun p np => hp (upd H2 p (.lst (List.replicate k.toNat vs).flatten)) p _ (s.trans (same_upd np)) (s.free np) upd_same ?_⟩
  rw [hide_new np ((rs.mono s).fresh np)]
  exact RpAll.rep r2 _
end
end Py

set_option Elab.async false
set_option linter.all false
set_option maxRecDepth 100000
set_option maxHeartbeats 1000000
/-! Py, part D: statements, loops, comprehensions, defs. -/
namespace Py
open PySem PySem.Spec L2
open Rp (rp)

/-! ### slots set, forgotten, let go -/
inductive Wk : List Slot → List Slot → Prop where
  | nil : Wk [] []
  | s {x : Slot} {ρ ρ' : List Slot} : Wk ρ ρ' → Wk (x :: ρ) (x :: ρ')
  | n {x : Slot} {ρ ρ' : List Slot} : Wk ρ ρ' → Wk (x :: ρ) (.non :: ρ')
theorem Wk.refl : ∀ ρ : List Slot, Wk ρ ρ
  | [] => .nil
  | _ :: r => .s (Wk.refl r)
theorem Rs.wk {K : PySem.W.Frag} {Hs H : Hp} {ρ ρ' : List Slot} (w : Wk ρ ρ') : ∀ {σ : St} {ads : List Addr}, Rs K Hs H ρ σ ads → ∃ ads', Rs K Hs H ρ' σ ads' ∧ ads'.Sublist ads := by
  induction w with
  | nil => intro σ ads r; exact ⟨ads, r, List.Sublist.refl _⟩
  | @s x ρ ρ' _ ih =>
    intro σ ads r
    cases r with
    | non r => obtain ⟨a, h1, h2⟩ := ih r; exact ⟨a, .non h1, h2⟩
    | val h r => obtain ⟨a, h1, h2⟩ := ih r; exact ⟨a, .val h h1, h2⟩
    | own h0 h1 h2 r => obtain ⟨a, q1, q2⟩ := ih r; exact ⟨_, .own h0 h1 h2 q1, q2.cons₂ _⟩
  | @n x ρ ρ' _ ih =>
    intro σ ads r
    cases r with
    | non r => obtain ⟨a, h1, h2⟩ := ih r; exact ⟨a, .non h1, h2⟩
    | val h r => obtain ⟨a, h1, h2⟩ := ih r; exact ⟨a, .non h1, h2⟩
    | own h0 h1 h2 r => obtain ⟨a, q1, q2⟩ := ih r; exact ⟨a, .non q1, q2.cons _⟩
theorem RS.wk {K : PySem.W.Frag} {S own : List Addr} {ρ ρ' : List Slot} {σ : St} {H : Hp} (w : Wk ρ ρ') (r : RS K S ρ σ H own) : RS K S ρ' σ H own := by
  obtain ⟨⟨ads, h1, h2, h3⟩, h4, h5⟩ := r
  obtain ⟨ads', q1, q2⟩ := h1.wk w
  exact ⟨⟨ads', q1, h2.sublist q2, fun a ha => h3 a (q2.subset ha)⟩, h4, h5⟩
theorem Rs.set {K : PySem.W.Frag} {Hs H : Hp} {T : Type} [Rp T] {v : V} {x : T} (h : rp K Hs v x) {ρ : List Slot} {σ : St} {ads : List Addr} (r : Rs K Hs H ρ σ ads) : ∀ i : Nat, ∃ ads', Rs K Hs H (ρ.set i (.val T x)) (σ.set i (some v)) ads' ∧ ads'.Sublist ads := by
  induction r with
  | nil => intro i; exact ⟨[], .nil, List.Sublist.refl _⟩
  | non r ih =>
    intro i
    cases i with
    | zero => exact ⟨_, .val h r, List.Sublist.refl _⟩
    | succ i => obtain ⟨a, q1, q2⟩ := ih i; exact ⟨a, .non q1, q2⟩
  | val h1 r ih =>
    intro i
    cases i with
    | zero => exact ⟨_, .val h r, List.Sublist.refl _⟩
    | succ i => obtain ⟨a, q1, q2⟩ := ih i; exact ⟨a, .val h1 q1, q2⟩
  | own h0 h1 h2 r ih =>
    intro i
    cases i with
    | zero => exact ⟨_, .val h r, List.sublist_cons_self _ _⟩
    | succ i => obtain ⟨a, q1, q2⟩ := ih i; exact ⟨_, .own h0 h1 h2 q1, q2.cons₂ _⟩
theorem RS.set {K : PySem.W.Frag} {S own : List Addr} {ρ : List Slot} {σ : St} {H : Hp} {T : Type} [Rp T] {v : V} {x : T} (r : RS K S ρ σ H own) (h : rp K (hide (S ++ own) H) v x) (i : Nat) : RS K S (ρ.set i (.val T x)) (σ.set i (some v)) H own := by
  obtain ⟨⟨ads, h1, h2, h3⟩, h4, h5⟩ := r
  obtain ⟨ads', q1, q2⟩ := Rs.set h h1 i
  exact ⟨⟨ads', q1, h2.sublist q2, fun a ha => h3 a (q2.subset ha)⟩, h4, h5⟩
theorem Rs.setOwn {K : PySem.W.Frag} {Hs H : Hp} {T : Type} [Rp T] {a : Addr} {vs : List V} {xs : List T} (e : H a = some (.lst vs)) (h : RpAll K Hs vs xs) {ρ : List Slot} {σ : St} {ads : List Addr} (r : Rs K Hs H ρ σ ads) : ∀ i : Nat, i < ρ.length → a ∉ ads → ads.Nodup →
    ∃ ads', Rs K Hs H (ρ.set i (.own T none xs)) (σ.set i (some (.ref a))) ads' ∧ ads'.Nodup ∧ ∀ b ∈ ads', b = a ∨ b ∈ ads := by
  have hno : ∀ b, (none : Option Addr) = some b → b = a := fun _ z => nomatch z
  induction r with
  | nil => intro i hi; exact absurd hi (Nat.not_lt_zero _)
  | non r ih =>
    intro i hi hn nd
    cases i with
    | zero => exact ⟨_, .own hno e h r, List.nodup_cons.mpr ⟨hn, nd⟩, fun b hb => (List.mem_cons.mp hb).imp id id⟩
    | succ i => obtain ⟨as, q1, q2, q3⟩ := ih i (Nat.lt_of_succ_lt_succ hi) hn nd; exact ⟨as, .non q1, q2, q3⟩
  | val h1 r ih =>
    intro i hi hn nd
    cases i with
    | zero => exact ⟨_, .own hno e h r, List.nodup_cons.mpr ⟨hn, nd⟩, fun b hb => (List.mem_cons.mp hb).imp id id⟩
    | succ i => obtain ⟨as, q1, q2, q3⟩ := ih i (Nat.lt_of_succ_lt_succ hi) hn nd; exact ⟨as, .val h1 q1, q2, q3⟩
  | own h0 h1 h2 r ih =>
    intro i hi hn nd
    cases i with
    | zero => exact ⟨_, .own hno e h r, List.nodup_cons.mpr ⟨fun z => hn (List.mem_cons_of_mem _ z), (List.nodup_cons.mp nd).2⟩, fun b hb => (List.mem_cons.mp hb).imp id fun z => List.mem_cons_of_mem _ z⟩
    | succ i =>
      obtain ⟨as, q1, q2, q3⟩ := ih i (Nat.lt_of_succ_lt_succ hi) (fun z => hn (List.mem_cons_of_mem _ z)) (List.nodup_cons.mp nd).2
      refine ⟨_, .own h0 h1 h2 q1, List.nodup_cons.mpr ⟨fun z => ?_, q2⟩, fun b hb => ?_⟩
      · rcases q3 _ z with z | z
        · exact hn (z ▸ List.mem_cons_self)
        · exact (List.nodup_cons.mp nd).1 z
      · rcases List.mem_cons.mp hb with z | z
        · exact .inr (z ▸ List.mem_cons_self)
        · exact (q3 b z).imp id fun z => List.mem_cons_of_mem _ z
theorem same_hide_new {S own : List Addr} {H H' : Hp} {a : Addr} (s : Same H H') (na : H a = none) : Same (hide (S ++ own) H) (hide (S ++ a :: own) H') := fun b o e => by
  obtain ⟨h1, h2⟩ := hide_some e
  have hb : b ≠ a := fun z => by rw [z, na] at h2; cases h2
  rw [hide_out, s b o h2]
  intro z
  rcases List.mem_append.mp z with z | z
  · exact h1 (List.mem_append_left _ z)
  · rcases List.mem_cons.mp z with z | z
    · exact hb z
    · exact h1 (List.mem_append_right _ z)
/-- a new list is kept in slot i -/
theorem RS.setOwn {K : PySem.W.Frag} {S own : List Addr} {ρ : List Slot} {σ : St} {H H' : Hp} {T : Type} [Rp T] {a : Addr} {vs : List V} {xs : List T} (r : RS K S ρ σ H own) (s : Same H H') (na : H a = none) (e : H' a = some (.lst vs)) (h : RpAll K (hide (a :: (S ++ own)) H') vs xs)
    (i : Nat) (hi : i < ρ.length) : RS K S (ρ.set i (.own T none xs)) (σ.set i (some (.ref a))) H' (a :: own) := by
  obtain ⟨⟨ads, h1, h2, h3⟩, h4, h5⟩ := r
  have nS : a ∉ S ++ own := fun z => h5 a z na
  have h1' := h1.mono (same_hide_new s na) fun b _ o q => s b o q
  have hh : RpAll K (hide (S ++ a :: own) H') vs xs := by
    refine RpAll.mono (hide_mono fun b hb => ?_) h
    rcases List.mem_append.mp hb with z | z
    · exact List.mem_cons_of_mem _ (List.mem_append_left _ z)
    · rcases List.mem_cons.mp z with z | z
      · exact z ▸ List.mem_cons_self
      · exact List.mem_cons_of_mem _ (List.mem_append_right _ z)
  obtain ⟨ads', q1, q2, q3⟩ := Rs.setOwn e hh h1' i hi (fun z => nS (List.mem_append_right _ (h3 a z))) h2
  refine ⟨⟨ads', q1, q2, fun b hb => ?_⟩, fun b hb => ?_, fun b hb => ?_⟩
  · rcases q3 b hb with z | z
    · exact List.mem_cons.mpr (.inl z)
    · exact List.mem_cons_of_mem _ (h3 b z)
  · rcases List.mem_cons.mp hb with z | z
    · exact z ▸ fun q => nS (List.mem_append_left _ q)
    · exact h4 b z
  · rcases List.mem_append.mp hb with z | z
    · exact dom_same s (h5 b (List.mem_append_left _ z))
    · rcases List.mem_cons.mp z with z | z
      · rw [z, e]; intro q; cases q
      · exact dom_same s (h5 b (List.mem_append_right _ z))
/-- the kept list of slot i is written -/
theorem Rs.write {K : PySem.W.Frag} {Hs H : Hp} {T : Type} [Rp T] {vs' : List V} {ys : List T} (h : RpAll K Hs vs' ys) {ρ : List Slot} {σ : St} {ads : List Addr} (r : Rs K Hs H ρ σ ads) : ∀ {i : Nat} {ao : Option Addr} {xs : List T} {a : Addr}, ρ[i]? = some (.own T ao xs) → σ[i]? = some (some (.ref a)) →
    ads.Nodup → Rs K Hs (upd H a (.lst vs')) (ρ.set i (.own T ao ys)) σ ads := by
  induction r with
  | nil => intro i ao xs a e1; cases e1
  | non r ih =>
    intro i ao xs a e1 e2 nd
    cases i with
    | zero => cases e1
    | succ i => exact .non (ih (i := i) e1 e2 nd)
  | val q r ih =>
    intro i ao xs a e1 e2 nd
    cases i with
    | zero => cases e1
    | succ i => exact .val q (ih (i := i) e1 e2 nd)
  | @own ρ σ as T' inst ao' xs' b ws h0 h1 h2 r ih =>
    intro i ao xs a e1 e2 nd
    cases i with
    | zero =>
      cases e1
      cases e2
      refine .own h0 upd_same h (r.mono (Same.refl _) fun b hb o q => ?_)
      rw [upd_ne (fun z => (List.nodup_cons.mp nd).1 (by rw [← z]; exact hb))]
      exact q
    | succ i =>
      have hb : b ≠ a := by
        obtain ⟨a2, _, z1, z2, _⟩ := r.own_at (show ρ[i]? = _ from e1)
        have : a2 = a := by
          have z3 : σ[i]? = some (some (.ref a)) := e2
          rw [z1] at z3
          cases z3
          rfl
        subst this
        exact fun z => (List.nodup_cons.mp nd).1 (z ▸ z2)
      exact .own h0 (by rw [upd_ne hb]; exact h1) h2 (ih (i := i) e1 e2 (List.nodup_cons.mp nd).2)
theorem RS.write {K : PySem.W.Frag} {S own : List Addr} {ρ : List Slot} {σ : St} {H : Hp} {T : Type} [Rp T] {a : Addr} {vs' : List V} {xs ys : List T} {ao : Option Addr} {i : Nat} (r : RS K S ρ σ H own) (e1 : ρ[i]? = some (.own T ao xs)) (e2 : σ[i]? = some (some (.ref a)))
    (h : RpAll K (hide (S ++ own) H) vs' ys) : RS K S (ρ.set i (.own T ao ys)) σ (upd H a (.lst vs')) own ∧ Ext own H own (upd H a (.lst vs')) := by
  obtain ⟨⟨ads, h1, h2, h3⟩, h4, h5⟩ := r
  obtain ⟨a2, _, z1, z2, _⟩ := h1.own_at e1
  have : a2 = a := by
    rw [z1] at e2
    cases e2
    rfl
  subst this
  have hin : a2 ∈ S ++ own := List.mem_append_right _ (h3 _ z2)
  have hd : ∀ b, H b ≠ none → upd H a2 (.lst vs') b ≠ none := fun b hb => by
    by_cases z : b = a2
    · subst z; rw [upd_same]; intro q; cases q
    · rw [upd_ne z]; exact hb
  refine ⟨⟨⟨ads, ?_, h2, h3⟩, h4, fun b hb => hd b (h5 b hb)⟩, fun b o e hb => ?_, hd, fun b hb => .inl hb⟩
  · rw [hide_upd_in hin]
    exact Rs.write h h1 e1 e2 h2
  · rw [upd_ne (fun z => hb (by rw [z]; exact h3 _ z2))]
    exact e
/-- a kept list is let go: from now on it is only read -/
theorem Rs.freeze {K : PySem.W.Frag} {Hs H : Hp} {T : Type} [Rp T] {ρ : List Slot} {σ : St} {ads : List Addr} (r : Rs K Hs H ρ σ ads) : ∀ {i : Nat} {ao : Option Addr} {xs : List T}, ρ[i]? = some (.own T ao xs) → ads.Nodup →
    ∃ a vs ads', a ∈ ads ∧ H a = some (.lst vs) ∧ RpAll K Hs vs xs ∧ ads'.Nodup ∧ (∀ b ∈ ads', b ∈ ads ∧ b ≠ a) ∧ ∀ Hs', Same Hs Hs' → Hs' a = some (.lst vs) → Rs K Hs' H (ρ.set i (.val (List T) xs)) σ ads' := by
  induction r with
  | nil => intro i ao xs e1; cases e1
  | non r ih =>
    intro i ao xs e1 nd
    cases i with
    | zero => cases e1
    | succ i =>
      obtain ⟨a, vs, ads', q1, q2, q3, q4, q5, q6⟩ := ih (i := i) e1 nd
      exact ⟨a, vs, ads', q1, q2, q3, q4, q5, fun Hs' s e => .non (q6 Hs' s e)⟩
  | val h r ih =>
    intro i ao xs e1 nd
    cases i with
    | zero => cases e1
    | succ i =>
      obtain ⟨a, vs, ads', q1, q2, q3, q4, q5, q6⟩ := ih (i := i) e1 nd
      exact ⟨a, vs, ads', q1, q2, q3, q4, q5, fun Hs' s e => .val (Rp.mono s h) (q6 Hs' s e)⟩
  | @own ρ σ as T' inst ao' xs' b ws h0 h1 h2 r ih =>
    intro i ao xs e1 nd
    cases i with
    | zero =>
      cases e1
      exact ⟨_, _, _, List.mem_cons_self, h1, h2, (List.nodup_cons.mp nd).2, fun b hb => ⟨List.mem_cons_of_mem _ hb, fun z => (List.nodup_cons.mp nd).1 (z ▸ hb)⟩, fun Hs' s e => .val ⟨_, _, rfl, e, RpAll.mono s h2⟩ (r.mono s fun _ _ _ q => q)⟩
    | succ i =>
      obtain ⟨a, vs, ads', q1, q2, q3, q4, q5, q6⟩ := ih (i := i) e1 (List.nodup_cons.mp nd).2
      refine ⟨a, vs, b :: ads', List.mem_cons_of_mem _ q1, q2, q3, List.nodup_cons.mpr ⟨fun z => (List.nodup_cons.mp nd).1 (q5 _ z).1, q4⟩, fun c hc => ?_, fun Hs' s e => .own h0 h1 (RpAll.mono s h2) (q6 Hs' s e)⟩
      rcases List.mem_cons.mp hc with z | z
      · exact ⟨z ▸ List.mem_cons_self, z ▸ fun y => (List.nodup_cons.mp nd).1 (y ▸ q1)⟩
      · exact ⟨List.mem_cons_of_mem _ (q5 c z).1, (q5 c z).2⟩
theorem RS.freeze {K : PySem.W.Frag} {S own : List Addr} {ρ : List Slot} {σ : St} {H : Hp} {T : Type} [Rp T] {xs : List T} {ao : Option Addr} {i : Nat} (r : RS K S ρ σ H own) (e1 : ρ[i]? = some (.own T ao xs)) :
    ∃ own', RS K S (ρ.set i (.val (List T) xs)) σ H own' ∧ Ext own H own' H := by
  obtain ⟨⟨ads, h1, h2, h3⟩, h4, h5⟩ := r
  obtain ⟨a, vs, ads', q1, q2, q3, q4, q5, q6⟩ := Rs.freeze h1 e1 h2
  have hsub : ∀ b, b ∈ S ++ own.filter (fun b => decide (b ≠ a)) → b ∈ S ++ own := fun b hb => by
    rcases List.mem_append.mp hb with z | z
    · exact List.mem_append_left _ z
    · exact List.mem_append_right _ (List.mem_filter.mp z).1
  refine ⟨own.filter (fun b => decide (b ≠ a)), ⟨⟨ads', q6 _ (hide_mono hsub) ?_, q4, fun b hb => ?_⟩, fun b hb => h4 b (List.mem_filter.mp hb).1, fun b hb => h5 b (hsub b hb)⟩, fun b o e _ => e, fun b h => h, fun b hb => .inl (List.mem_filter.mp hb).1⟩
  · rw [hide_out]
    · exact q2
    · intro z
      rcases List.mem_append.mp z with z | z
      · exact h4 a (h3 a q1) z
      · exact of_decide_eq_true (List.mem_filter.mp z).2 rfl
  · exact List.mem_filter.mpr ⟨h3 b (q5 b hb).1, decide_eq_true (q5 b hb).2⟩

/-! ### ways out of statements -/
inductive Ctl (S B R : Type) where
  | nx (s : S)
  | rt (r : R)
  | bk (b : B)
  | ct (b : B)
/-- what stands at a return: the slots (kept arguments), the value -/
structure Rt (R : Type) where
  sl : R → List Slot
  vl : PySem.W.Frag → List Addr → List Addr → Hp → V → R → Prop
def WkO (ρ : List Slot) : Option (List Slot) → Prop
  | none => True
  | some r => Wk ρ r
section
variable {S₁ B R : Type}
def ErrS (K : PySem.W.Frag) (W : WX) (S own : List Addr) (H : Hp) (ρe : Option (List Slot)) (e : Ex) : Prop :=
  ∀ σ' H' own' c d, Ext own H own' H' → (∀ r, ρe = some r → RS K S r σ' H' own') → ExR K (hide (S ++ own') H') c d e → W c d σ' H'
def NxP (K : PySem.W.Frag) (S own : List Addr) (H : Hp) (k : St → Hp → Prop) (n : S₁ → List Slot) (s : S₁) : Prop := ∀ σ' H' own', Ext own H own' H' → RS K S (n s) σ' H' own' → k σ' H'
def RtP (K : PySem.W.Frag) (S own : List Addr) (H : Hp) (k : VK) (Z : Rt R) (r : R) : Prop := ∀ v σ' H' own', Ext own H own' H' → RS K S (Z.sl r) σ' H' own' → Z.vl K S own' H' v r → k v H'
def CtlP (K : PySem.W.Frag) (S own : List Addr) (H : Hp) (D : Ends) (n : S₁ → List Slot) (b : B → List Slot) (Z : Rt R) : Ctl S₁ B R → Prop
  | .nx s => NxP K S own H D.nx n s
  | .rt r => RtP K S own H D.rt Z r
  | .bk x => NxP K S own H D.bk b x
  | .ct x => NxP K S own H D.ct b x
abbrev SNp (X : Cx) (W : WX) (ρe : Option (List Slot)) (ρ : List Slot) (t : TS) (n : S₁ → List Slot) (m : Res S₁) : Prop :=
  ∀ (S own : List Addr) (σ : St) (H : Hp) (D : Ends), RS X.K S ρ σ H own → Post m (NxP X.K S own H D.nx n) (ErrS X.K W S own H ρe) → t D σ H
abbrev SRp (X : Cx) (W : WX) (ρe : Option (List Slot)) (ρ : List Slot) (t : TS) (Z : Rt R) (m : Res R) : Prop :=
  ∀ (S own : List Addr) (σ : St) (H : Hp) (D : Ends), RS X.K S ρ σ H own → Post m (RtP X.K S own H D.rt Z) (ErrS X.K W S own H ρe) → t D σ H
abbrev SCp (X : Cx) (W : WX) (ρe : Option (List Slot)) (ρ : List Slot) (t : TS) (n : S₁ → List Slot) (b : B → List Slot) (Z : Rt R) (m : Res (Ctl S₁ B R)) : Prop :=
  ∀ (S own : List Addr) (σ : St) (H : Hp) (D : Ends), RS X.K S ρ σ H own → Post m (CtlP X.K S own H D n b Z) (ErrS X.K W S own H ρe) → t D σ H
/-- one statement that falls through -/
structure N1 (X : Cx) (W : WX) (ρe : Option (List Slot)) (ρ : List Slot) (st : Stmt) (n : S₁ → List Slot) (m : Res S₁) : Prop where
  ex : ∃ t, PS X st t ∧ SNp X W ρe ρ t n m
structure C1 (X : Cx) (W : WX) (ρe : Option (List Slot)) (ρ : List Slot) (st : Stmt) (n : S₁ → List Slot) (b : B → List Slot) (Z : Rt R) (m : Res (Ctl S₁ B R)) : Prop where
  ex : ∃ t, PS X st t ∧ SCp X W ρe ρ t n b Z m
/-- blocks: that fall through, that return, of any way out -/
structure SN (X : Cx) (W : WX) (ρe : Option (List Slot)) (ρ : List Slot) (sts : List Stmt) (n : S₁ → List Slot) (m : Res S₁) : Prop where
  ex : ∃ t, PSs X sts t ∧ SNp X W ρe ρ t n m
structure SR (X : Cx) (W : WX) (ρe : Option (List Slot)) (ρ : List Slot) (sts : List Stmt) (Z : Rt R) (m : Res R) : Prop where
  ex : ∃ t, PSs X sts t ∧ SRp X W ρe ρ t Z m
structure SC (X : Cx) (W : WX) (ρe : Option (List Slot)) (ρ : List Slot) (sts : List Stmt) (n : S₁ → List Slot) (b : B → List Slot) (Z : Rt R) (m : Res (Ctl S₁ B R)) : Prop where
  ex : ∃ t, PSs X sts t ∧ SCp X W ρe ρ t n b Z m
end
section
variable {S₁ S₂ B R T A : Type} [Rp T] [Rp A] {X : Cx} {W : WX} {g : Bool} {ρe : Option (List Slot)} {ρ ρ' : List Slot} {st : Stmt} {rest sts : List Stmt} {n n1 : S₁ → List Slot} {n2 : S₂ → List Slot} {b : B → List Slot} {Z : Rt R} {e a : Expr} {pos : Pos} {lv : Nat}
  {S own own1 : List Addr} {σ : St} {H H1 : Hp} {K : PySem.W.Frag} {ex : Ex}
theorem ErrS.mono (h : ErrS K W S own H ρe ex) (x : Ext own H own1 H1) : ErrS K W S own1 H1 ρe ex := fun σ' H' own' c d x' r q => h σ' H' own' c d (x.trans x') r q
theorem ErrS.toX (h : ErrS X.K W S own H ρe ex) (rs : RS X.K S ρ σ H own) (w : WkO ρ ρe) : ErrX X W S own σ H ex := fun H' c d s q => h σ H' own c d (Ext.of_same s) (fun r e => by
  subst e
  exact (rs.mono s).wk w) q
theorem NxP.mono {k : St → Hp → Prop} {s : S₁} (h : NxP K S own H k n s) (x : Ext own H own1 H1) : NxP K S own1 H1 k n s := fun σ' H' own' x' r => h σ' H' own' (x.trans x') r
theorem RtP.mono {k : VK} {r : R} (h : RtP K S own H k Z r) (x : Ext own H own1 H1) : RtP K S own1 H1 k Z r := fun v σ' H' own' x' q1 q2 => h v σ' H' own' (x.trans x') q1 q2
theorem CtlP.mono {D : Ends} {z : Ctl S₁ B R} (h : CtlP K S own H D n b Z z) (x : Ext own H own1 H1) : CtlP K S own1 H1 D n b Z z := by
  cases z with
  | nx s => exact NxP.mono h x
  | rt r => exact RtP.mono h x
  | bk s => exact NxP.mono h x
  | ct s => exact NxP.mono h x
/-- an expression within a statement -/
theorem in_stmt {te : TE} {m : Res A} {f : A → Res R} {P : R → Prop} {R' : V → Hp → Prop} (q : EGp X W g ρ te m) (rs : RS X.K S ρ σ H own) (w : WkO ρ ρe) (h : Post (m.bind f) P (ErrS X.K W S own H ρe))
    (k : ∀ x v H', Same H H' → rp X.K (hide (reg g S own) H') v x → Post (f x) P (ErrS X.K W S own H ρe) → R' v H') : te σ H R' :=
  q S own σ H _ rs (h.bind.imp (fun x hx H1 v s1 r1 => k x v H1 s1 r1 hx) fun _ z => z.toX rs w)

/-! ### blocks -/
theorem b_nil {s : S₁} (w : Wk ρ (n s)) : SN X W ρe ρ [] n (.ok s) := ⟨_, pss_nil, fun S own σ H D rs h => h σ H own Ext.refl (rs.wk w)⟩
theorem b_cons {m1 : Res S₂} {m2 : S₂ → Res S₁} (h1 : N1 X W ρe ρ st n2 m1) (h2 : ∀ s, SN X W ρe (n2 s) rest n (m2 s)) : SN X W ρe ρ (st :: rest) n (m1.bind m2) := by
  obtain ⟨t1, p1, q1⟩ := h1.ex
  have dead : PSs X rest tNever := pss_never
  cases m1 with
  | bad => exact ⟨_, pss_cons p1 dead, fun S own σ H D rs h => h.elim⟩
  | err z => exact ⟨_, pss_cons p1 dead, fun S own σ H D rs h => q1 S own σ H _ rs h⟩
  | ok s =>
    obtain ⟨t2, p2, q2⟩ := (h2 s).ex
    exact ⟨_, pss_cons p1 p2, fun S own σ H D rs h => q1 S own σ H _ rs fun σ1 H1 own1 x1 r1 => q2 S own1 σ1 H1 D r1 (Post.imp h (fun _ z => z.mono x1) fun _ z => z.mono x1)⟩
theorem r_cons {m1 : Res S₂} {m2 : S₂ → Res R} (h1 : N1 X W ρe ρ st n2 m1) (h2 : ∀ s, SR X W ρe (n2 s) rest Z (m2 s)) : SR X W ρe ρ (st :: rest) Z (m1.bind m2) := by
  obtain ⟨t1, p1, q1⟩ := h1.ex
  have dead : PSs X rest tNever := pss_never
  cases m1 with
  | bad => exact ⟨_, pss_cons p1 dead, fun S own σ H D rs h => h.elim⟩
  | err z => exact ⟨_, pss_cons p1 dead, fun S own σ H D rs h => q1 S own σ H _ rs h⟩
  | ok s =>
    obtain ⟨t2, p2, q2⟩ := (h2 s).ex
    exact ⟨_, pss_cons p1 p2, fun S own σ H D rs h => q1 S own σ H _ rs fun σ1 H1 own1 x1 r1 => q2 S own1 σ1 H1 D r1 (Post.imp h (fun _ z => z.mono x1) fun _ z => z.mono x1)⟩
theorem c_cons {m1 : Res S₂} {m2 : S₂ → Res (Ctl S₁ B R)} (h1 : N1 X W ρe ρ st n2 m1) (h2 : ∀ s, SC X W ρe (n2 s) rest n b Z (m2 s)) : SC X W ρe ρ (st :: rest) n b Z (m1.bind m2) := by
  obtain ⟨t1, p1, q1⟩ := h1.ex
  have dead : PSs X rest tNever := pss_never
  cases m1 with
  | bad => exact ⟨_, pss_cons p1 dead, fun S own σ H D rs h => h.elim⟩
  | err z => exact ⟨_, pss_cons p1 dead, fun S own σ H D rs h => q1 S own σ H _ rs h⟩
  | ok s =>
    obtain ⟨t2, p2, q2⟩ := (h2 s).ex
    exact ⟨_, pss_cons p1 p2, fun S own σ H D rs h => q1 S own σ H _ rs fun σ1 H1 own1 x1 r1 => q2 S own1 σ1 H1 D r1 (Post.imp h (fun _ z => z.mono x1) fun _ z => z.mono x1)⟩
/-- a statement of any way out, then a block -/
def thenC (m : Res (Ctl S₂ B R)) (f : S₂ → Res (Ctl S₁ B R)) : Res (Ctl S₁ B R) := m.bind fun
  | .nx s => f s
  | .rt r => .ok (.rt r)
  | .bk x => .ok (.bk x)
  | .ct x => .ok (.ct x)
def thenR (m : Res (Ctl S₂ Empty R)) (f : S₂ → Res R) : Res R := m.bind fun
  | .nx s => f s
  | .rt r => .ok r
  | .bk x => nomatch x
  | .ct x => nomatch x
theorem cc_cons {m1 : Res (Ctl S₂ B R)} {m2 : S₂ → Res (Ctl S₁ B R)} (h1 : C1 X W ρe ρ st n2 b Z m1) (h2 : ∀ s, SC X W ρe (n2 s) rest n b Z (m2 s)) : SC X W ρe ρ (st :: rest) n b Z (thenC m1 m2) := by
  obtain ⟨t1, p1, q1⟩ := h1.ex
  have dead : PSs X rest tNever := pss_never
  cases m1 with
  | bad => exact ⟨_, pss_cons p1 dead, fun S own σ H D rs h => h.elim⟩
  | err z => exact ⟨_, pss_cons p1 dead, fun S own σ H D rs h => q1 S own σ H _ rs h⟩
  | ok z =>
    cases z with
    | nx s =>
      obtain ⟨t2, p2, q2⟩ := (h2 s).ex
      exact ⟨_, pss_cons p1 p2, fun S own σ H D rs h => q1 S own σ H _ rs fun σ1 H1 own1 x1 r1 => q2 S own1 σ1 H1 D r1 (Post.imp (show Post (m2 s) _ _ from h) (fun _ z => CtlP.mono z x1) fun _ z => z.mono x1)⟩
    | rt r => exact ⟨_, pss_cons p1 dead, fun S own σ H D rs h => q1 S own σ H _ rs h⟩
    | bk r => exact ⟨_, pss_cons p1 dead, fun S own σ H D rs h => q1 S own σ H _ rs h⟩
    | ct r => exact ⟨_, pss_cons p1 dead, fun S own σ H D rs h => q1 S own σ H _ rs h⟩
theorem rc_cons {b : Empty → List Slot} {m1 : Res (Ctl S₂ Empty R)} {m2 : S₂ → Res R} (h1 : C1 X W ρe ρ st n2 b Z m1) (h2 : ∀ s, SR X W ρe (n2 s) rest Z (m2 s)) : SR X W ρe ρ (st :: rest) Z (thenR m1 m2) := by
  obtain ⟨t1, p1, q1⟩ := h1.ex
  have dead : PSs X rest tNever := pss_never
  cases m1 with
  | bad => exact ⟨_, pss_cons p1 dead, fun S own σ H D rs h => h.elim⟩
  | err z => exact ⟨_, pss_cons p1 dead, fun S own σ H D rs h => q1 S own σ H _ rs h⟩
  | ok z =>
    cases z with
    | nx s =>
      obtain ⟨t2, p2, q2⟩ := (h2 s).ex
      exact ⟨_, pss_cons p1 p2, fun S own σ H D rs h => q1 S own σ H _ rs fun σ1 H1 own1 x1 r1 => q2 S own1 σ1 H1 D r1 (Post.imp (show Post (m2 s) _ _ from h) (fun _ z => z.mono x1) fun _ z => z.mono x1)⟩
    | rt r => exact ⟨_, pss_cons p1 dead, fun S own σ H D rs h => q1 S own σ H _ rs h⟩
    | bk r => exact nomatch r
    | ct r => exact nomatch r
theorem c_nil {s : S₁} (w : Wk ρ (n s)) : SC X W ρe ρ [] n b Z (.ok (.nx s)) := ⟨_, pss_nil, fun S own σ H D rs h => h σ H own Ext.refl (rs.wk w)⟩
theorem c_break {x : B} (w : Wk ρ (b x)) : SC X W ρe ρ (.Break pos :: rest) n b Z (.ok (.bk x)) := ⟨_, pss_cons ps_break pss_never, fun S own σ H D rs h => h σ H own Ext.refl (rs.wk w)⟩
theorem c_cont {x : B} (w : Wk ρ (b x)) : SC X W ρe ρ (.Continue pos :: rest) n b Z (.ok (.ct x)) := ⟨_, pss_cons ps_continue pss_never, fun S own σ H D rs h => h σ H own Ext.refl (rs.wk w)⟩
/-- a block that returns, as one of any way out -/
theorem SR.c {m : Res R} (h : SR X W ρe ρ sts Z m) : SC X W ρe ρ sts n b Z (m.bind fun r => .ok (.rt r)) := by
  obtain ⟨t, p, q⟩ := h.ex
  exact ⟨t, p, fun S own σ H D rs h => q S own σ H D rs (h.bind.imp (fun _ z => z) fun _ z => z)⟩
theorem SN.c {m : Res S₁} (h : SN X W ρe ρ sts n m) : SC X W ρe ρ sts n b Z (m.bind fun r => .ok (.nx r)) := by
  obtain ⟨t, p, q⟩ := h.ex
  exact ⟨t, p, fun S own σ H D rs h => q S own σ H D rs (h.bind.imp (fun _ z => z) fun _ z => z)⟩

/-! ### letting go ahead of a block -/
theorem b_free (i : Nat) {ao : Option Addr} {xs : List T} {m : Res S₁} (h : SN X W ρe ρ' sts n m) (e : ρ[i]? = some (.own T ao xs) := by rfl) (e' : ρ' = ρ.set i (.val (List T) xs) := by rfl) : SN X W ρe ρ sts n m := by
  obtain ⟨t, p, q⟩ := h.ex
  refine ⟨t, p, fun S own σ H D rs hP => ?_⟩
  obtain ⟨own', r, x⟩ := rs.freeze e
  subst e'
  exact q S own' σ H D r (Post.imp hP (fun _ z => z.mono x) fun _ z => z.mono x)
theorem r_free (i : Nat) {ao : Option Addr} {xs : List T} {m : Res R} (h : SR X W ρe ρ' sts Z m) (e : ρ[i]? = some (.own T ao xs) := by rfl) (e' : ρ' = ρ.set i (.val (List T) xs) := by rfl) : SR X W ρe ρ sts Z m := by
  obtain ⟨t, p, q⟩ := h.ex
  refine ⟨t, p, fun S own σ H D rs hP => ?_⟩
  obtain ⟨own', r, x⟩ := rs.freeze e
  subst e'
  exact q S own' σ H D r (Post.imp hP (fun _ z => z.mono x) fun _ z => z.mono x)
theorem c_free (i : Nat) {ao : Option Addr} {xs : List T} {m : Res (Ctl S₁ B R)} (h : SC X W ρe ρ' sts n b Z m) (e : ρ[i]? = some (.own T ao xs) := by rfl) (e' : ρ' = ρ.set i (.val (List T) xs) := by rfl) : SC X W ρe ρ sts n b Z m := by
  obtain ⟨t, p, q⟩ := h.ex
  refine ⟨t, p, fun S own σ H D rs hP => ?_⟩
  obtain ⟨own', r, x⟩ := rs.freeze e
  subst e'
  exact q S own' σ H D r (Post.imp hP (fun _ z => z.mono x) fun _ z => z.mono x)

/-! ### returns -/
/-- any value -/
def retD (T : Type) [Rp T] : Rt T := ⟨fun _ => [], fun K S own H v x => rp K (hide (S ++ own) H) v x⟩
/-- a new list -/
def retF (T : Type) [Rp T] : Rt (List T) := ⟨fun _ => [], fun K S own H v xs => ∃ a vs, v = .ref a ∧ a ∈ own ∧ H a = some (.lst vs) ∧ RpAll K (hide (S ++ own) H) vs xs⟩
theorem rs_nil (rs : RS K S ρ σ H own) : RS K S [] [] H own := ⟨⟨[], .nil, List.nodup_nil, fun _ z => nomatch z⟩, rs.out, rs.dom⟩
theorem r_ret {m : Res T} (h : EG X W true ρ e m) (w : WkO ρ ρe := by first | exact True.intro | (repeat (first | exact Wk.nil | refine Wk.s ?_ | refine Wk.n ?_))) : SR X W ρe ρ (.Return (some e) pos :: rest) (retD T) m := by
  obtain ⟨t, p, q⟩ := h.ex
  refine ⟨_, pss_cons (ps_ret p) pss_never, fun S own σ H D rs h => ?_⟩
  exact q S own σ H D.rt rs (h.imp (fun x hx H' v s r => hx v [] H' own (Ext.of_same s) (rs_nil (rs.mono s)) r) fun _ z => z.toX rs w)
theorem r_retF {m : Res (List T)} (h : FG X W ρ e m) (w : WkO ρ ρe := by first | exact True.intro | (repeat (first | exact Wk.nil | refine Wk.s ?_ | refine Wk.n ?_))) : SR X W ρe ρ (.Return (some e) pos :: rest) (retF T) m := by
  obtain ⟨t, p, q⟩ := h.ex
  refine ⟨_, pss_cons (ps_ret p) pss_never, fun S own σ H D rs h => ?_⟩
  refine q S own σ H D.rt rs (h.imp (fun x hx H' a vs s na e1 e2 => hx (.ref a) [] H' (a :: own) ⟨fun b o z _ => s b o z, fun b z => dom_same s z, fun b z => ?_⟩ ?_ ⟨a, vs, rfl, List.mem_cons_self, e1, ?_⟩) fun _ z => z.toX rs w)
  · rcases List.mem_cons.mp z with z | z
    · exact .inr (z ▸ na)
    · exact .inl z
  · refine ⟨⟨[], .nil, List.nodup_nil, fun _ z => nomatch z⟩, fun b hb => ?_, fun b hb => ?_⟩
    · rcases List.mem_cons.mp hb with z | z
      · exact z ▸ fun y => rs.dom a (List.mem_append_left _ y) na
      · exact rs.out b z
    · rcases List.mem_append.mp hb with z | z
      · exact dom_same s (rs.dom b (List.mem_append_left _ z))
      · rcases List.mem_cons.mp z with z | z
        · rw [z, e1]; intro y; cases y
        · exact dom_same s (rs.dom b (List.mem_append_right _ z))
  · refine RpAll.mono (hide_mono fun b hb => ?_) e2
    rcases List.mem_append.mp hb with z | z
    · exact List.mem_cons_of_mem _ (List.mem_append_left _ z)
    · rcases List.mem_cons.mp z with z | z
      · exact z ▸ List.mem_cons_self
      · exact List.mem_cons_of_mem _ (List.mem_append_right _ z)
/-- a kept list handed back as new -/
theorem r_retOwn (i : Nat) {x : Str} {ao : Option Addr} {xs : List T} {p2 : Pos} (hr : ρ[i]? = some (Slot.own T ao xs) := by rfl) (hN : X.N[i]? = some x := by rfl) (hv : Vis X.env.scope x := by first | exact Or.inl rfl | exact Or.inr (Or.inl rfl) | exact Or.inr (Or.inr rfl))
    (hd : (x == ("__debug__" : Str)) = false := by decide) (hcd : (x == ("__classdict__" : Str)) = false := by decide) : SR X W ρe ρ (.Return (some (.Name x p2)) pos :: rest) (retF T) (.ok xs) := by
  refine ⟨_, pss_cons (ps_ret (pe_var hN hv hd hcd)) pss_never, fun S own σ H D rs h => ?_⟩
  obtain ⟨ads, r, _, h3⟩ := rs.rs
  obtain ⟨a, vs, e, e1, e2, e3, _⟩ := r.own_at hr
  exact ⟨_, e, h (.ref a) [] H own Ext.refl (rs_nil rs) ⟨a, vs, rfl, h3 a e1, e2, e3⟩⟩
theorem SR.of_eq {m m' : Res R} (h : SR X W ρe ρ sts Z m) (z : m = m') : SR X W ρe ρ sts Z m' := z ▸ h

/-! ### simple statements -/
theorem n_set (i : Nat) {x : Str} {m : Res T} {p2 : Pos} {n3 : T → List Slot} (nd : X.N.Nodup) (h : EG X W true ρ e m) (hn : ∀ v, n3 v = ρ.set i (.val T v) := by intro _; rfl) (w : WkO ρ ρe := by first | exact True.intro | (repeat (first | exact Wk.nil | refine Wk.s ?_ | refine Wk.n ?_))) (hi : X.N[i]? = some x := by rfl) (hx : Loc X.env.scope x := by first | exact Or.inl rfl | exact Or.inr rfl)
    (hs : swapsWith e (some (.Name x p2)) pos.line X.env = pure false := by rfl) (hf : X.fn x = true ∨ X.env.scope.names.lookup x = some .local := by first | exact .inl rfl | exact .inr rfl | assumption) : N1 X W ρe ρ (.Assign [.Name x p2] e pos) n3 m := by
  obtain ⟨t, p, q⟩ := h.ex
  refine ⟨_, ps_set nd hi hx p hs hf, fun S own σ H D rs h => ?_⟩
  refine q S own σ H _ rs (h.imp (fun v hv H' u s r => hv _ H' own (Ext.of_same s) ?_) fun _ z => z.toX rs w)
  rw [hn]
  exact (rs.mono s).set r i
end
end Py

set_option Elab.async false
set_option linter.all false
set_option maxRecDepth 100000
set_option maxHeartbeats 1000000
/-! Py, part E: further statements, loops, comprehensions, calls and defs. -/
namespace Py
open PySem PySem.Spec L2
open Rp (rp)

/-- what a loop walks -/
structure WJ (K : PySem.W.Frag) (B : List Addr) (H0 : Hp) (J : It) {T : Type} [Rp T] (xs : List T) : Prop where
  goes : ∀ i H, i < xs.length → Same (hide B H0) H → J.go i H
  stops : ∀ H, Same (hide B H0) H → J.stop xs.length H
  yields : ∀ i H v H' x B2, xs[i]? = some x → Same (hide B H0) (hide B2 H) → (∀ b ∈ B2, H b ≠ none) → J.yld i H v H' → Same H H' ∧ rp K (hide B2 H') v x
abbrev IJp (X : Cx) (W : WX) (ρ : List Slot) (wi : TI) {T : Type} [Rp T] (m : Res (List T)) : Prop :=
  ∀ (S own : List Addr) (σ : St) (H : Hp) (R : It → Hp → Prop), RS X.K S ρ σ H own → Post m (fun xs => ∀ J H', Same H H' → WJ X.K (S ++ own) H' J xs → R J H') (ErrX X W S own σ H) → wi σ H R
structure IJ (X : Cx) (W : WX) (ρ : List Slot) (tg e : Expr) {T : Type} [Rp T] (m : Res (List T)) : Prop where
  ex : ∃ wi, PI X tg e wi ∧ IJp X W ρ wi m
abbrev GJp (X : Cx) (gt : TG) {T : Type} [Rp T] (u : List Slot → T → List Slot) (js : List Nat) : Prop :=
  ∀ (S own : List Addr) (ρ : List Slot) (σ : St) (H : Hp) (v : V) (x : T) (Q : St → Hp → Prop), RS X.K S ρ σ H own → rp X.K (hide (S ++ own) H) v x → (∀ σ', RS X.K S (u ρ x) σ' H own → (∀ vs : List Nat, (∀ i ∈ js, i ∈ vs) → wipe σ' vs = wipe σ vs) → Q σ' H) → gt v σ H Q
/-- a target: what it makes of the slots; the slots that it sets -/
structure GJ (X : Cx) (tg : Expr) {T : Type} [Rp T] (u : List Slot → T → List Slot) (js : List Nat) : Prop where
  ex : ∃ gt, PG X tg gt ∧ GJp X gt u js
theorem wipe_set {σ : St} {i : Nat} {o : Option V} : ∀ {vs : List Nat}, i ∈ vs → wipe (σ.set i o) vs = wipe σ vs
  | v :: vs, h => by
    show (wipe (σ.set i o) vs).set v none = (wipe σ vs).set v none
    by_cases hi : i ∈ vs
    · rw [wipe_set hi]
    · have hv : i = v := (List.mem_cons.mp h).resolve_right hi
      subst hv
      have aux : ∀ ws : List Nat, i ∉ ws → wipe (σ.set i o) ws = (wipe σ ws).set i o := by
        intro ws
        induction ws with
        | nil => intro _; rfl
        | cons w ws ih =>
          intro hn
          show (wipe (σ.set i o) ws).set w none = ((wipe σ ws).set w none).set i o
          rw [ih fun z => hn (List.mem_cons_of_mem _ z)]
          exact List.set_comm _ _ (fun z => hn (z ▸ List.mem_cons_self))
      rw [aux vs hi, List.set_set]

def forR {T S : Type} (f : S → T → Res S) : List T → S → Res S
  | [], s => .ok s
  | x :: r, s => (f s x).bind fun s' => forR f r s'
def forC {T S B R : Type} (f : S → T → Res (Ctl S S R)) : List T → S → Res (Ctl S B R)
  | [], s => .ok (.nx s)
  | x :: r, s => (f s x).bind fun
    | .nx s' => forC f r s'
    | .ct s' => forC f r s'
    | .bk s' => .ok (.nx s')
    | .rt z => .ok (.rt z)
def whileM {S : Type} (c : S → Res Bool) (f : S → Res S) : Nat → S → Res S
  | 0, _ => .bad
  | n + 1, s => (c s).bind fun b => if b then (f s).bind fun s' => whileM c f n s' else .ok s
def whileC {S B R : Type} (c : S → Res Bool) (f : S → Res (Ctl S S R)) : Nat → S → Res (Ctl S B R)
  | 0, _ => .bad
  | n + 1, s => (c s).bind fun b => if b then (f s).bind fun
      | .nx s' => whileC c f n s'
      | .ct s' => whileC c f n s'
      | .bk s' => .ok (.nx s')
      | .rt z => .ok (.rt z) else .ok (.nx s)
/-- a comprehension -/
def lcM {T U : Type} (t : T → Res Bool) (f : T → Res U) : List T → Res (List U)
  | [] => .ok []
  | x :: r => (t x).quiet.bind fun b => if b then (f x).quiet.bind fun y => (lcM t f r).bind fun ys => .ok (y :: ys) else lcM t f r

section
variable {S₁ S₂ B R T A U : Type} [Rp T] [Rp A] [Rp U] {X : Cx} {W : WX} {g : Bool} {ρe : Option (List Slot)} {ρ ρ' : List Slot} {st : Stmt} {rest sts : List Stmt} {n n1 : S₁ → List Slot} {n2 : S₂ → List Slot} {b : B → List Slot} {Z : Rt R} {e a tg : Expr} {pos : Pos} {lv : Nat}

/-! ### simple statements -/
theorem n_setF (i : Nat) {x : Str} {m : Res (List T)} {p2 : Pos} {n3 : List T → List Slot} (nd : X.N.Nodup) (h : FG X W ρ e m) (hn : ∀ v, n3 v = ρ.set i (.own T none v) := by intro _; rfl) (hl : i < ρ.length := by exact Nat.le_of_ble_eq_true rfl) (w : WkO ρ ρe := by first | exact True.intro | (repeat (first | exact Wk.nil | refine Wk.s ?_ | refine Wk.n ?_))) (hi : X.N[i]? = some x := by rfl) (hx : Loc X.env.scope x := by first | exact Or.inl rfl | exact Or.inr rfl)
    (hs : swapsWith e (some (.Name x p2)) pos.line X.env = pure false := by rfl) (hf : X.fn x = true ∨ X.env.scope.names.lookup x = some .local := by first | exact .inl rfl | exact .inr rfl | assumption) : N1 X W ρe ρ (.Assign [.Name x p2] e pos) n3 m := by
  obtain ⟨t, p, q⟩ := h.ex
  refine ⟨_, ps_set nd hi hx p hs hf, fun S own σ H D rs h => ?_⟩
  refine q S own σ H _ rs (h.imp (fun v hv H' a vs s na e1 e2 => hv _ H' (a :: own) ⟨fun b o z _ => s b o z, fun b z => dom_same s z, fun b z => ?_⟩ ?_) fun _ z => z.toX rs w)
  · rcases List.mem_cons.mp z with z | z
    · exact .inr (z ▸ na)
    · exact .inl z
  · rw [hn]
    exact rs.setOwn s na e1 e2 i hl
theorem RS.own_at {K : PySem.W.Frag} {S own : List Addr} {σ : St} {H : Hp} {i : Nat} {ao : Option Addr} {xs : List T} (rs : RS K S ρ σ H own) (hr : ρ[i]? = some (Slot.own T ao xs)) : ∃ a vs, σ[i]? = some (some (.ref a)) ∧ a ∈ own ∧ H a = some (.lst vs) ∧ RpAll K (hide (S ++ own) H) vs xs := by
  obtain ⟨ads, r, _, h3⟩ := rs.rs
  obtain ⟨a, vs, e, e1, e2, e3, _⟩ := r.own_at hr
  exact ⟨a, vs, e, h3 a e1, e2, e3⟩
def appM {α : Type} (xs : List α) (x : α) : Res (List α) := guardR (decide (xs.length < sizeLine)) (.ok (xs ++ [x]))
theorem n_app (i : Nat) {x : Str} {ao : Option Addr} {xs : List T} {m : Res T} {p1 p2 p3 : Pos} {n3 : List T → List Slot} (h : EG X W true ρ e m) (hr : ρ[i]? = some (Slot.own T ao xs) := by rfl) (hn : ∀ v, n3 v = ρ.set i (.own T ao v) := by intro _; rfl) (w : WkO ρ ρe := by first | exact True.intro | (repeat (first | exact Wk.nil | refine Wk.s ?_ | refine Wk.n ?_))) (hN : X.N[i]? = some x := by rfl)
    (hv : Vis X.env.scope x := by first | exact Or.inl rfl | exact Or.inr (Or.inl rfl) | exact Or.inr (Or.inr rfl)) (hd : (x == ("__debug__" : Str)) = false := by decide) (hcd : (x == ("__classdict__" : Str)) = false := by decide)
    (hbase : attributeBase (.Name x p1) "append" X.env (eval (.Name x p1) X.env) = eval (.Name x p1) X.env := by rfl) (hline : (p2.endLine == p3.line) = true := by rfl) (hst : starEach (e :: []) X.env = (false, eval e X.env) :: starEach [] X.env := by rfl)
    (hpl : (backTo p3 (starEach [] X.env)).any (·.1) = false := by rfl) (hs : swapsWith (.Call (.Attribute (.Name x p1) "append" p2) [e] [] p3) none pos.line X.env = pure false := by rfl)
    (hfew : ((backTo p3 (starEach (e :: []) X.env)).all (fun x => !x.1) && (backToKw p3 (keywordEach [] X.env)).all (fun x => x.1.isSome) && decide ((e :: []).length + ([] : List Keyword).length + (if ([] : List Keyword).isEmpty then 0 else 1) < 30)) = true := by rfl) :
    N1 X W ρe ρ (.Expr (.Call (.Attribute (.Name x p1) "append" p2) [e] [] p3) pos) n3 (m.bind fun v => appM xs v) := by
  obtain ⟨t, p, q⟩ := h.ex
  refine ⟨_, ps_expr (pe_bm PySem.F.plainAttrs_list PySem.F.slot_list_append PySem.F.type_list_append mt_append (pe_var hN hv hd hcd) (pa_cons p pa_nil hst) hbase hfew hline hst hpl) hs, fun S own σ H D rs hP => ?_⟩
  obtain ⟨a, vs, e1, e2, e3, e4⟩ := rs.own_at hr
  refine ⟨_, e1, .inl ⟨rfl, vs, .inl (.inl e3)⟩, ?_⟩
  refine in_stmt (R' := fun v H2 => rAppend (.ref a) [v] H2 fun _ H1 => D.nx σ H1) q rs w hP fun x v H' s r hx => ?_
  obtain ⟨h1, hx⟩ := hx.guard
  have r4 := (RpAll.mono (hide_same s) e4)
  refine ⟨a, vs, v, rfl, rfl, s _ _ e3, by rw [e4.length]; exact of_decide_eq_true h1, ?_⟩
  obtain ⟨w1, w2⟩ := (rs.mono s).write hr e1 (r4.append (.cons r .nil))
  exact hx σ _ own ((Ext.of_same s).trans w2) (by rw [hn]; exact w1)
def setM {α : Type} (xs : List α) (i : Int) (x : α) : Res (List α) := match ixN xs.length i with
  | some j => .ok (xs.set j x)
  | none => .bad
theorem n_setix (i : Nat) {x : Str} {ao : Option Addr} {xs : List T} {m : Res T} {mi : Res Int} {ie : Expr} {p1 p2 : Pos} {n3 : List T → List Slot} (h : EG X W true ρ e m) (hI : EG X W true ρ ie mi) (hr : ρ[i]? = some (Slot.own T ao xs) := by rfl) (hn : ∀ v, n3 v = ρ.set i (.own T ao v) := by intro _; rfl) (w : WkO ρ ρe := by first | exact True.intro | (repeat (first | exact Wk.nil | refine Wk.s ?_ | refine Wk.n ?_)))
    (hN : X.N[i]? = some x := by rfl) (hv : Vis X.env.scope x := by first | exact Or.inl rfl | exact Or.inr (Or.inl rfl) | exact Or.inr (Or.inr rfl)) (hd : (x == ("__debug__" : Str)) = false := by decide) (hcd : (x == ("__classdict__" : Str)) = false := by decide)
    (ha : ∀ v, assign (.Subscript (.Name x p1) ie p2) X.env v = (do
      let ov ← holding [v] (eval (.Name x p1) X.env)
      let iv ← holding [v, ov] (eval ie X.env)
      standAt p2
      holding [v, ov, iv] (setItem ov iv v)
      release [v, ov, iv] []) := by intro _; rfl)
    (hs : swapsWithSole [.Subscript (.Name x p1) ie p2] e pos.line X.env = pure false := by rfl) (hw : swappedStores [.Subscript (.Name x p1) ie p2] e X.env = pure none := by rfl)
    (h1 : (assignEach [.Subscript (.Name x p1) ie p2] X.env).map (·.2) = [assign (.Subscript (.Name x p1) ie p2) X.env] := by rfl) :
    N1 X W ρe ρ (.Assign [.Subscript (.Name x p1) ie p2] e pos) n3 (m.bind fun v => mi.bind fun k => setM xs k v) := by
  obtain ⟨t, p, q⟩ := h.ex
  obtain ⟨ti, pi, qi⟩ := hI.ex
  refine ⟨_, ps_asg p (pg_sub (pe_var hN hv hd hcd) pi set_list ha) hs hw h1, fun S own σ H D rs hP => ?_⟩
  obtain ⟨a, vs, e1, e2, e3, e4⟩ := rs.own_at hr
  refine in_stmt (f := fun v => mi.bind fun k => setM xs k v) (R' := fun v H2 => gSub (tVar i) ti rSetL v σ H2 D.nx) q rs w hP fun y v H' s r hx => ?_
  refine ⟨_, e1, ?_⟩
  refine in_stmt (f := fun k => setM xs k y) (R' := fun u H2 => rSetL (.ref a) u v H2 fun H3 => D.nx σ H3) qi (rs.mono s) w (Post.imp hx (fun _ z => z) fun _ z => z.mono (Ext.of_same s)) fun k u H2 s2 r2 hk => ?_
  cases r2
  unfold setM at hk
  have s3 := s.trans s2
  cases ej : ixN xs.length k with
  | none => rw [ej] at hk; exact hk.elim
  | some j =>
    rw [ej] at hk
    refine ⟨a, vs, k, j, rfl, rfl, s3 _ _ e3, by rw [e4.length]; exact ej, ?_⟩
    obtain ⟨w1, w2⟩ := ((rs.mono s).mono s2).write hr e1 ((RpAll.mono (hide_same s3) e4).set (Rp.mono (hide_same s2) r) j)
    exact hk σ _ own ((Ext.of_same s3).trans w2) (by rw [hn]; exact w1)
theorem n_expr {m : Res T} {g : Bool} (h : EG X W g ρ e m) (w : WkO ρ ρe := by first | exact True.intro | (repeat (first | exact Wk.nil | refine Wk.s ?_ | refine Wk.n ?_))) (hs : swapsWith e none pos.line X.env = pure false := by rfl) : N1 X W ρe ρ (.Expr e pos) (fun _ : T => ρ) m := by
  obtain ⟨t, p, q⟩ := h.ex
  refine ⟨_, ps_expr p hs, fun S own σ H D rs h => ?_⟩
  exact q S own σ H _ rs (h.imp (fun v hv H' u s r => hv σ H' own (Ext.of_same s) (rs.mono s)) fun _ z => z.toX rs w)
theorem n_pass : N1 X W ρe ρ (.Pass pos) (fun _ : Unit => ρ) (.ok ()) := ⟨_, ps_pass, fun S own σ H D rs h => h σ H own Ext.refl rs⟩
theorem n_doc {x j p2} : N1 X W ρe ρ (.Expr (.Constant (.str x) j p2) pos) (fun _ : Unit => ρ) (.ok ()) := ⟨_, ps_doc, fun S own σ H D rs h => h σ H own Ext.refl rs⟩
theorem n_aug (i : Nat) {x : Str} {op : Operator} {f : Int → Int → Int} {v0 : Int} {m : Res Int} {p2 : Pos} {n3 : Int → List Slot} (nd : X.N.Nodup) (ho : PIp X op (ipI f)) (h : EG X W true ρ e m) (hr : ρ[i]? = some (Slot.val Int v0) := by rfl) (hn : ∀ v, n3 v = ρ.set i (.val Int v) := by intro _; rfl) (w : WkO ρ ρe := by first | exact True.intro | (repeat (first | exact Wk.nil | refine Wk.s ?_ | refine Wk.n ?_))) (hi : X.N[i]? = some x := by rfl) (hx : Loc X.env.scope x := by first | exact Or.inl rfl | exact Or.inr rfl)
    (hf : X.fn x = true ∨ X.env.scope.names.lookup x = some .local := by first | exact .inl rfl | exact .inr rfl | assumption) : N1 X W ρe ρ (.AugAssign (.Name x p2) op e pos) n3 (m.bind fun y => .ok (f v0 y)) := by
  obtain ⟨t, p, q⟩ := h.ex
  refine ⟨_, ps_aug nd hi hx p ho hf, fun S own σ H D rs h => ?_⟩
  obtain ⟨ads, r, _, _⟩ := rs.rs
  obtain ⟨u, e1, e2⟩ := r.val_at hr
  cases e2
  refine ⟨_, e1, ?_⟩
  refine in_stmt (f := fun y => .ok (f v0 y)) (R' := fun y H1 => ipI f (.int v0) y H1 fun z H2 => D.nx (σ.set i (some z)) H2) q rs w h fun y v H' s r1 hx => ?_
  cases r1
  refine ⟨v0, y, rfl, rfl, hx _ H' own (Ext.of_same s) ?_⟩
  rw [hn]
  exact (rs.mono s).set rfl i

/-! ### if -/
theorem if_run {c : Expr} {tc : TT} {mc : Res Bool} {S own : List Addr} {σ : St} {H : Hp} {P : R → Prop} {f : Bool → Res R} {k : Bool → Hp → Prop} (qc : TJp X W ρ tc mc) (rs : RS X.K S ρ σ H own) (w : WkO ρ ρe) (h : Post (mc.bind f) P (ErrS X.K W S own H ρe))
    (hk : ∀ b H', Same H H' → Post (f b) P (ErrS X.K W S own H ρe) → k b H') : tc σ H k :=
  qc S own σ H _ rs (h.bind.imp (fun b hb H1 s => hk b H1 s hb) fun _ z => z.toX rs w)
theorem n_if {c : Expr} {sa sb : List Stmt} {mc : Res Bool} {ma mb : Res S₁} (hc : TJ X W ρ c mc) (h1 : SN X W ρe ρ sa n ma) (h2 : SN X W ρe ρ sb n mb) (w : WkO ρ ρe := by first | exact True.intro | (repeat (first | exact Wk.nil | refine Wk.s ?_ | refine Wk.n ?_))) : N1 X W ρe ρ (.If c sa sb pos) n (mc.bind fun k => if k then ma else mb) := by
  obtain ⟨tc, pc, qc⟩ := hc.ex
  obtain ⟨ta, pa, qa⟩ := h1.ex
  obtain ⟨tb, pb, qb⟩ := h2.ex
  refine ⟨_, ps_if pc pa pb, fun S own σ H D rs h => if_run (c := c) qc rs w h fun k H' s hk => ?_⟩
  cases k with
  | true => rw [if_pos rfl]; exact qa S own σ H' D (rs.mono s) (Post.imp (show Post ma _ _ from hk) (fun _ z => z.mono (Ext.of_same s)) fun _ z => z.mono (Ext.of_same s))
  | false => rw [if_neg Bool.false_ne_true]; exact qb S own σ H' D (rs.mono s) (Post.imp (show Post mb _ _ from hk) (fun _ z => z.mono (Ext.of_same s)) fun _ z => z.mono (Ext.of_same s))
theorem c_if {c : Expr} {sa sb : List Stmt} {mc : Res Bool} {ma mb : Res (Ctl S₁ B R)} (hc : TJ X W ρ c mc) (h1 : SC X W ρe ρ sa n b Z ma) (h2 : SC X W ρe ρ sb n b Z mb) (w : WkO ρ ρe := by first | exact True.intro | (repeat (first | exact Wk.nil | refine Wk.s ?_ | refine Wk.n ?_))) : C1 X W ρe ρ (.If c sa sb pos) n b Z (mc.bind fun k => if k then ma else mb) := by
  obtain ⟨tc, pc, qc⟩ := hc.ex
  obtain ⟨ta, pa, qa⟩ := h1.ex
  obtain ⟨tb, pb, qb⟩ := h2.ex
  refine ⟨_, ps_if pc pa pb, fun S own σ H D rs h => if_run (c := c) qc rs w h fun k H' s hk => ?_⟩
  cases k with
  | true => rw [if_pos rfl]; exact qa S own σ H' D (rs.mono s) (Post.imp (show Post ma _ _ from hk) (fun _ z => CtlP.mono z (Ext.of_same s)) fun _ z => z.mono (Ext.of_same s))
  | false => rw [if_neg Bool.false_ne_true]; exact qb S own σ H' D (rs.mono s) (Post.imp (show Post mb _ _ from hk) (fun _ z => CtlP.mono z (Ext.of_same s)) fun _ z => z.mono (Ext.of_same s))
/-- if that returns on its yes, then the rest -/
theorem r_if {c : Expr} {sa : List Stmt} {mc : Res Bool} {ma mb : Res R} (hc : TJ X W ρ c mc) (h1 : SR X W ρe ρ sa Z ma) (h2 : SR X W ρe ρ rest Z mb) (w : WkO ρ ρe := by first | exact True.intro | (repeat (first | exact Wk.nil | refine Wk.s ?_ | refine Wk.n ?_))) : SR X W ρe ρ (.If c sa [] pos :: rest) Z (mc.bind fun k => if k then ma else mb) := by
  obtain ⟨tc, pc, qc⟩ := hc.ex
  obtain ⟨ta, pa, qa⟩ := h1.ex
  obtain ⟨tb, pb, qb⟩ := h2.ex
  refine ⟨_, pss_cons (ps_if pc pa pss_nil) pb, fun S own σ H D rs h => if_run (c := c) qc rs w h fun k H' s hk => ?_⟩
  cases k with
  | true => rw [if_pos rfl]; exact qa S own σ H' _ (rs.mono s) (Post.imp (show Post ma _ _ from hk) (fun _ z => z.mono (Ext.of_same s)) fun _ z => z.mono (Ext.of_same s))
  | false => rw [if_neg Bool.false_ne_true]; exact qb S own σ H' D (rs.mono s) (Post.imp (show Post mb _ _ from hk) (fun _ z => z.mono (Ext.of_same s)) fun _ z => z.mono (Ext.of_same s))
/-- both return -/
theorem r_if2 {c : Expr} {sa sb : List Stmt} {mc : Res Bool} {ma mb : Res R} (hc : TJ X W ρ c mc) (h1 : SR X W ρe ρ sa Z ma) (h2 : SR X W ρe ρ sb Z mb) (w : WkO ρ ρe := by first | exact True.intro | (repeat (first | exact Wk.nil | refine Wk.s ?_ | refine Wk.n ?_))) : SR X W ρe ρ (.If c sa sb pos :: rest) Z (mc.bind fun k => if k then ma else mb) := by
  obtain ⟨tc, pc, qc⟩ := hc.ex
  obtain ⟨ta, pa, qa⟩ := h1.ex
  obtain ⟨tb, pb, qb⟩ := h2.ex
  refine ⟨_, pss_cons (ps_if pc pa pb) pss_never, fun S own σ H D rs h => if_run (c := c) qc rs w h fun k H' s hk => ?_⟩
  cases k with
  | true => rw [if_pos rfl]; exact qa S own σ H' _ (rs.mono s) (Post.imp (show Post ma _ _ from hk) (fun _ z => z.mono (Ext.of_same s)) fun _ z => z.mono (Ext.of_same s))
  | false => rw [if_neg Bool.false_ne_true]; exact qb S own σ H' _ (rs.mono s) (Post.imp (show Post mb _ _ from hk) (fun _ z => z.mono (Ext.of_same s)) fun _ z => z.mono (Ext.of_same s))
/-! ### targets -/
theorem g_name (i : Nat) {x : Str} (nd : X.N.Nodup) (hi : X.N[i]? = some x := by rfl) (hx : Loc X.env.scope x := by first | exact Or.inl rfl | exact Or.inr rfl) (hf : X.fn x = true ∨ X.env.scope.names.lookup x = some .local := by first | exact .inl rfl | exact .inr rfl | assumption) : GJ X (.Name x pos) (fun ρ (v : T) => ρ.set i (.val T v)) [i] :=
  ⟨_, pg_name nd hi hx hf, fun S own ρ σ H v x Q rs r h => h _ (rs.set r i) fun vs hv => wipe_set (hv i List.mem_cons_self)⟩
theorem g_pair {e1 e2 : Expr} {k} {u1 : List Slot → T → List Slot} {u2 : List Slot → A → List Slot} {j1 j2 : List Nat} (hc : X.calm = true) (h1 : GJ X e1 u1 j1) (h2 : GJ X e2 u2 j2)
    (hn : (assignEach [e1, e2] X.env).length = 2 := by rfl) (hst : (assignEach [e1, e2] X.env).findIdx? (·.1) = none := by rfl) (hs1 : (assignEach (e1 :: [e2]) X.env).map (·.2) = assign e1 X.env :: (assignEach [e2] X.env).map (·.2) := by rfl) (hs2 : (assignEach (e2 :: []) X.env).map (·.2) = assign e2 X.env :: (assignEach [] X.env).map (·.2) := by rfl) :
    GJ X (.Tuple [e1, e2] k pos) (fun ρ (p : T × A) => u2 (u1 ρ p.1) p.2) (j1 ++ j2) := by
  obtain ⟨g1, p1, q1⟩ := h1.ex
  obtain ⟨g2, p2, q2⟩ := h2.ex
  refine ⟨_, pg_tup hc (pgs_cons p1 (pgs_cons p2 pgs_nil hs2) hs1) hn hst, fun S own ρ σ H v x Q rs r h => ?_⟩
  obtain ⟨p, vs, rfl, e1, r2⟩ := r
  obtain ⟨x1, x2⟩ := x
  cases r2 with
  | cons ra r2 =>
    cases r2 with
    | cons rb r3 =>
      cases r3
      exact ⟨p, _, rfl, SqT.same hide_sub e1, rfl, _, _, rfl, q1 S own ρ σ H _ x1 _ rs ra fun σ1 rs1 t1 => ⟨_, _, rfl, q2 S own _ σ1 H _ x2 _ rs1 rb fun σ2 rs2 t2 => ⟨rfl, h σ2 rs2 fun vs hv => (t2 vs fun i hi => hv i (List.mem_append_right _ hi)).trans (t1 vs fun i hi => hv i (List.mem_append_left _ hi))⟩⟩⟩
theorem g_three {B : Type} [Rp B] {e1 e2 e3 : Expr} {k} {u1 : List Slot → T → List Slot} {u2 : List Slot → A → List Slot} {u3 : List Slot → B → List Slot} {j1 j2 j3 : List Nat} (hc : X.calm = true) (h1 : GJ X e1 u1 j1) (h2 : GJ X e2 u2 j2) (h3 : GJ X e3 u3 j3)
    (hn : (assignEach [e1, e2, e3] X.env).length = 3 := by rfl) (hst : (assignEach [e1, e2, e3] X.env).findIdx? (·.1) = none := by rfl) (hs1 : (assignEach (e1 :: [e2, e3]) X.env).map (·.2) = assign e1 X.env :: (assignEach [e2, e3] X.env).map (·.2) := by rfl)
    (hs2 : (assignEach (e2 :: [e3]) X.env).map (·.2) = assign e2 X.env :: (assignEach [e3] X.env).map (·.2) := by rfl) (hs3 : (assignEach (e3 :: []) X.env).map (·.2) = assign e3 X.env :: (assignEach [] X.env).map (·.2) := by rfl) :
    GJ X (.Tuple [e1, e2, e3] k pos) (fun ρ (p : T3 T A B) => u3 (u2 (u1 ρ p.a) p.b) p.c) (j1 ++ (j2 ++ j3)) := by
  obtain ⟨g1, p1, q1⟩ := h1.ex
  obtain ⟨g2, p2, q2⟩ := h2.ex
  obtain ⟨g3, p3, q3⟩ := h3.ex
  refine ⟨_, pg_tup hc (pgs_cons p1 (pgs_cons p2 (pgs_cons p3 pgs_nil hs3) hs2) hs1) hn hst, fun S own ρ σ H v x Q rs r h => ?_⟩
  obtain ⟨p, vs, rfl, e1, r2⟩ := r
  obtain ⟨x1, x2, x3⟩ := x
  cases r2 with
  | cons ra r2 =>
    cases r2 with
    | cons rb r3 =>
      cases r3 with
      | cons rc r4 =>
        cases r4
        exact ⟨p, _, rfl, SqT.same hide_sub e1, rfl, _, _, rfl, q1 S own ρ σ H _ x1 _ rs ra fun σ1 rs1 t1 => ⟨_, _, rfl, q2 S own _ σ1 H _ x2 _ rs1 rb fun σ2 rs2 t2 => ⟨_, _, rfl, q3 S own _ σ2 H _ x3 _ rs2 rc fun σ3 rs3 t3 => ⟨rfl, h σ3 rs3 fun vs hv => ((t3 vs fun i hi => hv i (List.mem_append_right _ (List.mem_append_right _ hi))).trans (t2 vs fun i hi => hv i (List.mem_append_right _ (List.mem_append_left _ hi)))).trans (t1 vs fun i hi => hv i (List.mem_append_left _ hi))⟩⟩⟩⟩
/-- a, b = e -/
theorem n_unp {m : Res T} {u : List Slot → T → List Slot} {js : List Nat} {n3 : T → List Slot} (h : EG X W true ρ e m) (hg : GJ X tg u js) (hn : ∀ v, n3 v = u ρ v := by intro _; rfl) (w : WkO ρ ρe := by first | exact True.intro | (repeat (first | exact Wk.nil | refine Wk.s ?_ | refine Wk.n ?_)))
    (hs : swapsWithSole [tg] e pos.line X.env = pure false := by rfl) (hw : swappedStores [tg] e X.env = pure none := by rfl) (h1 : (assignEach [tg] X.env).map (·.2) = [assign tg X.env] := by rfl) : N1 X W ρe ρ (.Assign [tg] e pos) n3 m := by
  obtain ⟨t, p, q⟩ := h.ex
  obtain ⟨gt, pg, qg⟩ := hg.ex
  refine ⟨_, ps_asg p pg hs hw h1, fun S own σ H D rs h => ?_⟩
  refine q S own σ H _ rs (h.imp (fun v hv H' w' s r => qg S own ρ σ H' w' v _ (rs.mono s) r fun σ' rs' _ => hv σ' H' own (Ext.of_same s) ?_) fun _ z => z.toX rs w)
  rw [hn]
  exact rs'
/-- a, b = x, y (locals) -/
theorem n_par (i j : Nat) {x y : Str} {a b : Expr} {px py pt : Pos} {kt k2 pt2} {m1 : Res T} {m2 : Res A} {n3 : T × A → List Slot} (hc : X.calm = true) (nd : X.N.Nodup) (ha : EG X W true ρ a m1) (hb : EG X W true ρ b m2) (hn : ∀ v, n3 v = (ρ.set i (.val T v.1)).set j (.val A v.2) := by intro _; rfl) (w : WkO ρ ρe := by first | exact True.intro | (repeat (first | exact Wk.nil | refine Wk.s ?_ | refine Wk.n ?_)))
    (hi : X.N[i]? = some x := by rfl) (hj : X.N[j]? = some y := by rfl) (hij : i ≠ j := by decide) (hx : X.env.scope.names.lookup x = some .local := by rfl) (hy : X.env.scope.names.lookup y = some .local := by rfl)
    (hw : swappedStores [.Tuple [.Name x px, .Name y py] kt pt] (.Tuple [a, b] k2 pt2) X.env = pure (some [x, y]) := by rfl) (hs : swapsWithSole [.Tuple [.Name x px, .Name y py] kt pt] (.Tuple [a, b] k2 pt2) pos.line X.env = pure false := by rfl)
    (he : starEach [a, b] X.env = (false, eval a X.env) :: starEach [b] X.env := by rfl) (he2 : starEach [b] X.env = (false, eval b X.env) :: starEach [] X.env := by rfl) :
    N1 X W ρe ρ (.Assign [.Tuple [.Name x px, .Name y py] kt pt] (.Tuple [a, b] k2 pt2) pos) n3 (m1.bind fun u => m2.bind fun v => .ok (u, v)) := by
  obtain ⟨t1, p1, q1⟩ := ha.ex
  obtain ⟨t2, p2, q2⟩ := hb.ex
  refine ⟨_, ps_par hc nd hi hj hij hx hy (pa_cons p1 (pa_cons p2 pa_nil he2) he) hw hs, fun S own σ H D rs h => ?_⟩
  refine in_stmt (f := fun u => m2.bind fun v => .ok (u, v)) (R' := fun v H1 => t2 σ H1 fun u H2 => ∃ v' w', [v, u] = [v', w'] ∧ D.nx ((σ.set i (some v')).set j (some w')) H2) q1 rs w h fun u v H' s r hx => ?_
  refine in_stmt (f := fun v => .ok (u, v)) (R' := fun w1 H2 => ∃ v' w', [v, w1] = [v', w'] ∧ D.nx ((σ.set i (some v')).set j (some w')) H2) q2 (rs.mono s) w (Post.imp hx (fun _ z => z) fun _ z => z.mono (Ext.of_same s)) fun v2 w2 H2 s2 r2 hk => ?_
  refine ⟨v, w2, rfl, hk _ H2 own (Ext.of_same (s.trans s2)) ?_⟩
  rw [hn]
  exact (((rs.mono s).mono s2).set (Rp.mono (hide_same s2) r) i).set r2 j

/-! ### what is walked -/
theorem i_list {m : Res (List T)} (h : EG X W true ρ e m) : IJ X W ρ tg e m := by
  obtain ⟨t, p, q⟩ := h.ex
  refine ⟨_, pi_list p, fun S own σ H R rs hp => q S own σ H _ rs (hp.imp (fun xs hx H' v s r => ?_) fun _ z => z)⟩
  obtain ⟨a, vs, rfl, e1, e2⟩ := r
  have there : ∀ H2, Same (hide (S ++ own) H') H2 → SqL X.K H2 a vs := fun H2 s2 => .inl (.inl (s2 _ _ e1))
  refine ⟨a, rfl, ⟨vs, .inl (.inl (hide_sub _ _ e1))⟩, hx _ H' s ⟨fun i H2 hi s2 => ?_, fun H2 s2 => ⟨vs, there H2 s2, by rw [e2.length]; exact Nat.le_refl _⟩, fun i H2 v H3 x B2 ei s2 hd hy => ?_⟩⟩
  · have h2 : i < vs.length := by rw [e2.length]; exact hi
    exact ⟨vs, vs[i], there H2 s2, List.getElem?_eq_getElem h2⟩
  · obtain ⟨rfl, f⟩ := hy
    obtain ⟨v', e3, r3⟩ := e2.get ei
    have e4 := f vs (there _ (s2.trans hide_sub))
    rw [e3] at e4
    cases e4
    exact ⟨Same.refl _, Rp.mono s2 r3⟩
theorem i_tup {m : Res (Tup T)} (h : EG X W true ρ e m) : IJ X W ρ tg e (m.bind fun x => .ok x.l) := by
  obtain ⟨t, p, q⟩ := h.ex
  refine ⟨_, pi_tup p, fun S own σ H R rs hp => q S own σ H _ rs (hp.bind.imp (fun xs hx H' v s r => ?_) fun _ z => z)⟩
  obtain ⟨a, vs, rfl, e1, e2⟩ := r
  refine ⟨a, rfl, ⟨vs, SqT.same hide_sub e1⟩, hx _ H' s ⟨fun i H2 hi s2 => ?_, fun H2 s2 => ⟨vs, SqT.same s2 e1, by rw [e2.length]; exact Nat.le_refl _⟩, fun i H2 v H3 x B2 ei s2 hd hy => ?_⟩⟩
  · have h2 : i < vs.length := by rw [e2.length]; exact hi
    exact ⟨vs, vs[i], SqT.same s2 e1, List.getElem?_eq_getElem h2⟩
  · obtain ⟨rfl, f⟩ := hy
    obtain ⟨v', e3, r3⟩ := e2.get ei
    have e4 := f vs (SqT.same (s2.trans hide_sub) e1)
    rw [e3] at e4
    cases e4
    exact ⟨Same.refl _, Rp.mono s2 r3⟩
def inRange (j : Int) : Bool := decide (-(2 ^ 62) ≤ j) && decide (j < 2 ^ 62)
theorem inRange_ok {j : Int} (h : inRange j = true) : -(2 ^ 62) ≤ j ∧ j < 2 ^ 62 := by
  unfold inRange at h
  simp only [Bool.and_eq_true, decide_eq_true_eq] at h
  exact h
/-- range(lo, hi) -/
def rng (lo hi : Int) : List Int := (List.range (hi - lo).toNat).map fun i : Nat => lo + (i : Int)
theorem rng_length (lo hi : Int) : (rng lo hi).length = (hi - lo).toNat := by unfold rng; rw [List.length_map, List.length_range]
theorem rng_get {lo hi x : Int} {i : Nat} (h : (rng lo hi)[i]? = some x) : x = lo + (i : Int) := by
  unfold rng at h
  rw [List.getElem?_map] at h
  cases e : (List.range (hi - lo).toNat)[i]? with
  | none => rw [e] at h; cases h
  | some k =>
    rw [e] at h
    have : k = i := by
      rw [List.getElem?_eq_some_iff] at e
      obtain ⟨h1, h2⟩ := e
      rw [List.getElem_range] at h2
      exact h2.symm
    subst this
    cases h
    rfl
theorem wj_range {K : PySem.W.Frag} {B : List Addr} {H0 : Hp} {lo hi : Int} : WJ K B H0 (Itr lo (hi - lo).toNat) (rng lo hi) := by
  refine ⟨fun i H hi s => ?_, fun H s => ?_, fun i H v H' x B2 ei s hd hy => ?_⟩
  · show i < _
    rw [rng_length] at hi
    exact hi
  · show _ ≤ (rng lo hi).length
    rw [rng_length]
    exact Nat.le_refl _
  · obtain ⟨rfl, rfl⟩ := hy
    exact ⟨Same.refl _, by rw [rng_get ei]; rfl⟩
theorem i_range1 {m : Res Int} {p : Pos} (h : EG X W true ρ a m) (hm : X.mg "range" = none) (hg : Gl X "range" := by rfl) (hs : starEach [a] X.env = [(false, eval a X.env)] := by rfl) (he : starEach (a :: []) X.env = (false, eval a X.env) :: starEach [] X.env := by rfl) :
    IJ X W ρ tg (.Call (.Name "range" p) [a] [] pos) (m.bind fun j => guardR (inRange j) (.ok (rng 0 j))) := by
  obtain ⟨t, p, q⟩ := h.ex
  refine ⟨_, pi_range1 hg hm (pa_cons p pa_nil he) hs, fun S own σ H R rs hp => q S own σ H _ rs (hp.bind.imp (fun j hj H' v s r => ?_) fun _ z => z)⟩
  cases r
  obtain ⟨h1, hj⟩ := hj.guard
  have h2 := inRange_ok h1
  have w := wj_range (K := X.K) (B := S ++ own) (H0 := H') (lo := 0) (hi := j)
  rw [Int.sub_zero] at w
  exact ⟨j, rfl, h2.1, h2.2, hj _ H' s w⟩
theorem i_range2 {c : Expr} {m : Res Int} {mc : Res Int} {p : Pos} (h : EG X W true ρ a m) (h2 : EG X W true ρ c mc) (hm : X.mg "range" = none) (hg : Gl X "range" := by rfl) (hs : starEach [a, c] X.env = [(false, eval a X.env), (false, eval c X.env)] := by rfl) (hs2 : starEach [c] X.env = [(false, eval c X.env)] := by rfl)
    (he : starEach (a :: [c]) X.env = (false, eval a X.env) :: starEach [c] X.env := by rfl) (he2 : starEach (c :: []) X.env = (false, eval c X.env) :: starEach [] X.env := by rfl) :
    IJ X W ρ tg (.Call (.Name "range" p) [a, c] [] pos) (m.bind fun i => mc.bind fun j => guardR (inRange i && inRange j) (.ok (rng i j))) := by
  obtain ⟨t, p, q⟩ := h.ex
  obtain ⟨tc, pc, qc⟩ := h2.ex
  refine ⟨_, pi_range2 hg hm (pa_cons p (pa_cons pc pa_nil he2) he) hs hs2, fun S own σ H R rs hp => q S own σ H _ rs (hp.bind.imp (fun i hi H1 v s r => qc S own σ H1 _ (rs.mono s) (hi.bind.imp (fun j hj H' u s2 r2 => ?_) fun _ z => z.mono s)) fun _ z => z)⟩
  cases r
  cases r2
  obtain ⟨h1, hj⟩ := hj.guard
  rw [Bool.and_eq_true] at h1
  have h3 := inRange_ok h1.1
  have h4 := inRange_ok h1.2
  exact ⟨i, j, rfl, ⟨h3.1, h3.2, h4.1, h4.2⟩, hj _ H' (s.trans s2) wj_range⟩
def enumL {α : Type} (xs : List α) : List (Int × α) := (List.range xs.length).zipWith (fun (i : Nat) x => ((i : Int), x)) xs
theorem enumL_length {α : Type} (xs : List α) : (enumL xs).length = xs.length := by unfold enumL; simp
theorem enumL_get {α : Type} {xs : List α} {i : Nat} {p : Int × α} (h : (enumL xs)[i]? = some p) : p.1 = (i : Int) ∧ xs[i]? = some p.2 := by
  unfold enumL at h
  rw [List.getElem?_zipWith] at h
  cases e : xs[i]? with
  | none => rw [e] at h; cases hh : (List.range xs.length)[i]? <;> rw [hh] at h <;> cases h
  | some x =>
    have hi : i < xs.length := (List.getElem?_eq_some_iff.mp e).1
    have e2 : (List.range xs.length)[i]? = some i := by simp [hi]
    rw [e, e2] at h
    cases h
    exact ⟨rfl, rfl⟩
theorem pair_new {K : PySem.W.Frag} {B2 : List Addr} {H : Hp} {Tt : Addr} {x y : V} {q : T × A} (hT : H Tt = none) (hd : ∀ b ∈ B2, H b ≠ none) (h1 : rp K (hide B2 H) x q.1) (h2 : rp K (hide B2 H) y q.2) :
    Same H (upd H Tt (.tup [x, y])) ∧ rp K (hide B2 (upd H Tt (.tup [x, y]))) (.ref Tt) q := by
  have s := same_upd (o := HO.tup [x, y]) hT
  refine ⟨s, Tt, [x, y], rfl, .inl (.inl ?_), .cons (Rp.mono (hide_same s) h1) (.cons (Rp.mono (hide_same s) h2) .nil)⟩
  rw [hide_out fun z => hd Tt z hT, upd_same]
theorem i_enum {m : Res (List T)} {p : Pos} {elts : List Expr} {kk : Nat} {tpos : Pos} (h : EG X W true ρ a m) (hm : X.mg "enumerate" = none) (hg : Gl X "enumerate" := by rfl) (hs : starEach [a] X.env = [(false, eval a X.env)] := by rfl) (he : starEach (a :: []) X.env = (false, eval a X.env) :: starEach [] X.env := by rfl) :
    IJ X W ρ (.Tuple elts kk tpos) (.Call (.Name "enumerate" p) [a] [] pos) (m.bind fun xs => .ok (enumL xs)) := by
  obtain ⟨t, p, q⟩ := h.ex
  refine ⟨_, pi_enum hg hm (pa_cons p pa_nil he) hs, fun S own σ H R rs hp => q S own σ H _ rs (hp.bind.imp (fun xs hx H' v s r => ?_) fun _ z => z)⟩
  obtain ⟨a, vs, rfl, e1, e2⟩ := r
  have there : ∀ H2, Same (hide (S ++ own) H') H2 → SqL X.K H2 a vs := fun H2 s2 => .inl (.inl (s2 _ _ e1))
  have wl := walk_enum (K := X.K) (a := a) (xs := vs)
  refine ⟨a, vs, rfl, .inl (.inl (hide_sub _ _ e1)), hx _ H' s ⟨fun i H2 hi s2 => wl.goes i H2 (by rw [e2.length, ← enumL_length]; exact hi) (there H2 s2), fun H2 s2 => ?_, fun i H2 v H3 x B2 ei s2 hd hy => ?_⟩⟩
  · have z : (enumL xs).length = vs.length := by rw [enumL_length, e2.length]
    rw [z]
    exact wl.stops H2 (there H2 s2)
  · obtain ⟨g1, g2⟩ := enumL_get ei
    have hi : i < vs.length := by rw [e2.length]; exact (List.getElem?_eq_some_iff.mp g2).1
    obtain ⟨Tt, x1, y1, rfl, hT, rfl, f1, f2⟩ := wl.yields i H2 v H3 hi (there _ (s2.trans hide_sub)) hy
    obtain ⟨v', e3, r3⟩ := e2.get g2
    have f2 : vs[i]? = some y1 := f2
    rw [e3] at f2
    cases f1
    cases f2
    exact pair_new hT hd (by show _ = V.int _; rw [g1]) (Rp.mono s2 r3)
theorem i_zip {c : Expr} {m : Res (List T)} {mc : Res (List A)} {p : Pos} {elts : List Expr} {kk : Nat} {tpos : Pos} (h : EG X W true ρ a m) (h2 : EG X W true ρ c mc) (hm : X.mg "zip" = none) (hg : Gl X "zip" := by rfl)
    (he : starEach (a :: [c]) X.env = (false, eval a X.env) :: starEach [c] X.env := by rfl) (he2 : starEach (c :: []) X.env = (false, eval c X.env) :: starEach [] X.env := by rfl) (hpl : (backTo pos (starEach [c] X.env)).any (·.1) = false := by rfl) :
    IJ X W ρ (.Tuple elts kk tpos) (.Call (.Name "zip" p) [a, c] [] pos) (m.bind fun xs => mc.bind fun ys => .ok (xs.zip ys)) := by
  obtain ⟨t, p, q⟩ := h.ex
  obtain ⟨tc, pc, qc⟩ := h2.ex
  refine ⟨_, pi_zip hg hm (pa_cons p (pa_cons pc pa_nil he2) he) he hpl, fun S own σ H R rs hp => q S own σ H _ rs (hp.bind.imp (fun xs hx H1 v s1 r => qc S own σ H1 _ (rs.mono s1) (hx.bind.imp (fun ys hy H' u s2 r2 => ?_) fun _ z => z.mono s1)) fun _ z => z)⟩
  obtain ⟨a, vs, rfl, e1, e2⟩ := r
  obtain ⟨b, us, rfl, e3, e4⟩ := r2
  have e1 := hide_same s2 _ _ e1
  have e2 := RpAll.mono (hide_same s2) e2
  have s := s1.trans s2
  have there : ∀ H2, Same (hide (S ++ own) H') H2 → SqL X.K H2 a vs ∧ SqL X.K H2 b us := fun H2 s2 => ⟨.inl (.inl (s2 _ _ e1)), .inl (.inl (s2 _ _ e3))⟩
  have wl := walk_zip (K := X.K) (a := a) (b := b) (xs := vs) (ys := us) rfl
  have hlen : (xs.zip ys).length = min vs.length us.length := by rw [List.length_zip, e2.length, e4.length]
  refine ⟨a, b, vs, us, rfl, .inl (.inl (hide_sub _ _ e1)), .inl (.inl (hide_sub _ _ e3)), hy _ H' s ⟨fun i H2 hi s2 => wl.goes i H2 (by rw [← hlen]; exact hi) (there H2 s2), fun H2 s2 => ?_, fun i H2 v H3 x B2 ei s2 hd hyy => ?_⟩⟩
  · rw [hlen]
    exact wl.stops H2 (there H2 s2)
  · have hi : i < min vs.length us.length := by rw [← hlen]; exact (List.getElem?_eq_some_iff.mp ei).1
    obtain ⟨Tt, x1, y1, rfl, hT, rfl, f1, f2⟩ := wl.yields i H2 v H3 hi (there _ (s2.trans hide_sub)) hyy
    rw [List.getElem?_zip_eq_some] at ei
    obtain ⟨v', e5, r5⟩ := e2.get ei.1
    obtain ⟨u', e6, r6⟩ := e4.get ei.2
    have f1 : vs[i]? = some x1 := f1
    have f2 : us[i]? = some y1 := f2
    rw [e5] at f1
    rw [e6] at f2
    cases f1
    cases f2
    exact pair_new hT hd (Rp.mono s2 r5) (Rp.mono s2 r6)
def signs (z : Str) : List Str := z.cps.toList.map fun c => ⟨#[c]⟩
theorem i_str {m : Res Str} (h : EG X W true ρ e m) : IJ X W ρ tg e (m.bind fun z => .ok (signs z)) := by
  obtain ⟨t, p, q⟩ := h.ex
  refine ⟨_, pi_str p, fun S own σ H R rs hp => q S own σ H _ rs (hp.bind.imp (fun z hx H' v s r => ?_) fun _ z => z)⟩
  cases r
  have hl : (signs z).length = z.cps.size := by unfold signs; rw [List.length_map, Array.length_toList]
  refine ⟨z, rfl, hx _ H' s ⟨fun i H2 hi _ => ?_, fun H2 _ => ?_, fun i H2 v H3 x B2 ei _ _ hy => ?_⟩⟩
  · show i < z.cps.size
    rw [← hl]; exact hi
  · show z.cps.size ≤ _
    rw [hl]; exact Nat.le_refl _
  · obtain ⟨rfl, c, e1, rfl⟩ := hy
    refine ⟨Same.refl _, ?_⟩
    unfold signs at ei
    rw [List.getElem?_map, Array.getElem?_toList, e1] at ei
    cases ei
    rfl
theorem IJ.of_eq {m m' : Res (List T)} (h : IJ X W ρ tg e m) (z : m = m') : IJ X W ρ tg e m' := z ▸ h

/-! ### for -/
theorem n_for {body : List Stmt} {m : Res (List T)} {u : List Slot → T → List Slot} {ρl : S₁ → List Slot} {f : S₁ → T → Res S₁} {s0 : S₁} {js : List Nat} (C : CtxOk X W lv) (hi : IJ X W ρ tg e m) (hg : GJ X tg u js) (h0 : Wk ρ (ρl s0)) (hb : ∀ s x, SN X W ρe (u (ρl s) x) body ρl (f s x)) (w : WkO ρ ρe := by first | exact True.intro | (repeat (first | exact Wk.nil | refine Wk.s ?_ | refine Wk.n ?_)))
    (hs : ∀ x, foldedSetIterable e X.env x = pure x := by intro _; rfl) : N1 X W ρe ρ (.For tg e body [] pos) ρl (m.bind fun xs => forR f xs s0) := by
  obtain ⟨wi, pi, qi⟩ := hi.ex
  obtain ⟨gt, pg, qg⟩ := hg.ex
  have hx : ∃ tb : TS, PSs X body tb ∧ ∀ s x, SNp X W ρe (u (ρl s) x) tb ρl (f s x) := by
    refine ⟨fun D σ H => ∃ s x, (∃ tb, PSs X body tb ∧ SNp X W ρe (u (ρl s) x) tb ρl (f s x)) ∧ ∃ S own, RS X.K S (u (ρl s) x) σ H own ∧ Post (f s x) (NxP X.K S own H D.nx ρl) (ErrS X.K W S own H ρe), ⟨fun pins s σ H D I h => ?_⟩, fun s x S own σ H D rs h => ⟨s, x, (hb s x).ex, S, own, rs, h⟩⟩
    obtain ⟨s, x, ⟨tb, p, q⟩, S, own, rs, h⟩ := h
    exact p.run pins _ σ H D I (q S own σ H D rs h)
  obtain ⟨tb, pb, qb⟩ := hx
  refine ⟨_, ps_for C.po C.calm pi pg pb hs, fun S own σ H D rs h => qi S own σ H _ rs (h.bind.imp (fun xs hx J H1 s1 wj => ?_) fun _ z => z.toX rs w)⟩
  refine ⟨fun i k σ' H' => i + k = xs.length ∧ ∃ s own', Ext own H1 own' H' ∧ RS X.K S (ρl s) σ' H' own' ∧ Post (forR f (xs.drop i) s) (NxP X.K S own H D.nx ρl) (ErrS X.K W S own H ρe), ⟨xs.length, Nat.zero_add _, s0, own, Ext.refl, (rs.mono s1).wk h0, hx⟩, fun i k σ' H' hW => ?_⟩
  obtain ⟨ek, s, own', x1, rs', hp⟩ := hW
  have sight : Same (hide (S ++ own) H1) (hide (S ++ own') H') := x1.sight fun _ _ _ => trivial
  by_cases hi : i < xs.length
  · refine .inr ⟨wj.goes i H' hi (sight.trans hide_sub), fun σ2 H2 => ∃ s' own2, Ext own H1 own2 H2 ∧ RS X.K S (ρl s') σ2 H2 own2 ∧ Post (forR f (xs.drop (i + 1)) s') (NxP X.K S own H D.nx ρl) (ErrS X.K W S own H ρe), fun σ2 H2 hN => ?_, fun v H2 hy => ?_⟩
    · obtain ⟨s', own2, q1, q2, q3⟩ := hN
      exact ⟨k - 1, by omega, by omega, s', own2, q1, q2, q3⟩
    · obtain ⟨s2, r2⟩ := wj.yields i H' v H2 xs[i] (S ++ own') (List.getElem?_eq_getElem hi) sight rs'.dom hy
      refine qg S own' (ρl s) σ' H2 v xs[i] _ (rs'.mono s2) r2 fun σ3 rs3 _ => ?_
      refine qb s xs[i] S own' σ3 H2 _ rs3 ?_
      rw [List.drop_eq_getElem_cons hi] at hp
      have x2 : Ext own H own' H2 := (Ext.of_same s1).trans (x1.trans (Ext.of_same s2))
      refine (show Post ((f s xs[i]).bind fun s' => forR f (xs.drop (i + 1)) s') _ _ from hp).bind.imp (fun s' hs' σ4 H4 own4 x4 rs4 => ⟨s', own4, x1.trans ((Ext.of_same s2).trans x4), rs4, hs'⟩) fun ex z => z.mono x2
  · refine .inl ⟨?_, ?_⟩
    · have e1 : i = xs.length := by omega
      rw [e1]
      exact wj.stops H' (sight.trans hide_sub)
    · rw [List.drop_eq_nil_of_le (by omega)] at hp
      exact hp σ' H' own' ((Ext.of_same s1).trans x1) rs'
theorem c_for {body : List Stmt} {m : Res (List T)} {u : List Slot → T → List Slot} {ρl : S₁ → List Slot} {f : S₁ → T → Res (Ctl S₁ S₁ R)} {s0 : S₁} {js : List Nat} (C : CtxOk X W lv) (hi : IJ X W ρ tg e m) (hg : GJ X tg u js) (h0 : Wk ρ (ρl s0)) (hb : ∀ s x, SC X W ρe (u (ρl s) x) body ρl ρl Z (f s x)) (w : WkO ρ ρe := by first | exact True.intro | (repeat (first | exact Wk.nil | refine Wk.s ?_ | refine Wk.n ?_)))
    (hs : ∀ x, foldedSetIterable e X.env x = pure x := by intro _; rfl) : C1 X W ρe ρ (.For tg e body [] pos) ρl b Z (m.bind fun xs => forC f xs s0) := by
  obtain ⟨wi, pi, qi⟩ := hi.ex
  obtain ⟨gt, pg, qg⟩ := hg.ex
  have hx : ∃ tb : TS, PSs X body tb ∧ ∀ s x, SCp X W ρe (u (ρl s) x) tb ρl ρl Z (f s x) := by
    refine ⟨fun D σ H => ∃ s x, (∃ tb, PSs X body tb ∧ SCp X W ρe (u (ρl s) x) tb ρl ρl Z (f s x)) ∧ ∃ S own, RS X.K S (u (ρl s) x) σ H own ∧ Post (f s x) (CtlP X.K S own H D ρl ρl Z) (ErrS X.K W S own H ρe), ⟨fun pins s σ H D I h => ?_⟩, fun s x S own σ H D rs h => ⟨s, x, (hb s x).ex, S, own, rs, h⟩⟩
    obtain ⟨s, x, ⟨tb, p, q⟩, S, own, rs, h⟩ := h
    exact p.run pins _ σ H D I (q S own σ H D rs h)
  obtain ⟨tb, pb, qb⟩ := hx
  refine ⟨_, ps_for C.po C.calm pi pg pb hs, fun S own σ H D rs h => qi S own σ H _ rs (h.bind.imp (fun xs hx J H1 s1 wj => ?_) fun _ z => z.toX rs w)⟩
  refine ⟨fun i k σ' H' => i + k = xs.length ∧ ∃ s own', Ext own H1 own' H' ∧ RS X.K S (ρl s) σ' H' own' ∧ Post (forC f (xs.drop i) s) (CtlP X.K S own H D ρl b Z) (ErrS X.K W S own H ρe), ⟨xs.length, Nat.zero_add _, s0, own, Ext.refl, (rs.mono s1).wk h0, hx⟩, fun i k σ' H' hW => ?_⟩
  obtain ⟨ek, s, own', x1, rs', hp⟩ := hW
  have sight : Same (hide (S ++ own) H1) (hide (S ++ own') H') := x1.sight fun _ _ _ => trivial
  by_cases hi : i < xs.length
  · refine .inr ⟨wj.goes i H' hi (sight.trans hide_sub), fun σ2 H2 => ∃ s' own2, Ext own H1 own2 H2 ∧ RS X.K S (ρl s') σ2 H2 own2 ∧ Post (forC f (xs.drop (i + 1)) s') (CtlP X.K S own H D ρl b Z) (ErrS X.K W S own H ρe), fun σ2 H2 hN => ?_, fun v H2 hy => ?_⟩
    · obtain ⟨s', own2, q1, q2, q3⟩ := hN
      exact ⟨k - 1, by omega, by omega, s', own2, q1, q2, q3⟩
    · obtain ⟨s2, r2⟩ := wj.yields i H' v H2 xs[i] (S ++ own') (List.getElem?_eq_getElem hi) sight rs'.dom hy
      refine qg S own' (ρl s) σ' H2 v xs[i] _ (rs'.mono s2) r2 fun σ3 rs3 _ => ?_
      refine qb s xs[i] S own' σ3 H2 _ rs3 ?_
      rw [List.drop_eq_getElem_cons hi] at hp
      have x2 : Ext own H own' H2 := (Ext.of_same s1).trans (x1.trans (Ext.of_same s2))
      refine (show Post ((f s xs[i]).bind _) _ _ from hp).bind.imp (fun z hz => ?_) fun ex z => z.mono x2
      cases z with
      | nx s' => exact fun σ4 H4 own4 x4 rs4 => ⟨s', own4, x1.trans ((Ext.of_same s2).trans x4), rs4, hz⟩
      | ct s' => exact fun σ4 H4 own4 x4 rs4 => ⟨s', own4, x1.trans ((Ext.of_same s2).trans x4), rs4, hz⟩
      | bk s' => exact NxP.mono (show NxP X.K S own H D.nx ρl s' from hz) x2
      | rt r => exact RtP.mono (show RtP X.K S own H D.rt Z r from hz) x2
  · refine .inl ⟨?_, ?_⟩
    · have e1 : i = xs.length := by omega
      rw [e1]
      exact wj.stops H' (sight.trans hide_sub)
    · rw [List.drop_eq_nil_of_le (by omega)] at hp
      exact hp σ' H' own' ((Ext.of_same s1).trans x1) rs'
end
end Py

set_option Elab.async false
set_option linter.all false
set_option maxRecDepth 100000
set_option maxHeartbeats 1000000
/-! Py, part F: while, comprehensions, calls of defs, defs, isinstance, is. -/
namespace Py
open PySem PySem.Spec L2
open Rp (rp)

mutual
theorem dp_same {K : PySem.W.Frag} {H H' : Hp} (s : Same H H') : ∀ {v : V} {d : PyData}, Dp K H v d → Dp K H' v d
  | _, _, .non => .non
  | _, _, .bl b => .bl b
  | _, _, .int i => .int i
  | _, _, .str x => .str x
  | _, _, .lst h r => .lst (s.seq h) (dpAll_same s r)
  | _, _, .tup h r => .tup (SqT.same s h) (dpAll_same s r)
theorem dpAll_same {K : PySem.W.Frag} {H H' : Hp} (s : Same H H') : ∀ {vs : List V} {ds : List PyData}, DpAll K H vs ds → DpAll K H' vs ds
  | _, _, .nil => .nil
  | _, _, .cons h r => .cons (dp_same s h) (dpAll_same s r)
end
section
variable {S₁ S₂ B R T A U : Type} [Rp T] [Rp A] [Rp U] {X : Cx} {W : WX} {g : Bool} {ρe : Option (List Slot)} {ρ ρ' : List Slot} {st : Stmt} {rest sts : List Stmt} {n n1 : S₁ → List Slot} {n2 : S₂ → List Slot} {b : B → List Slot} {Z : Rt R} {e a tg : Expr} {pos : Pos} {lv : Nat}

/-! ### while -/
theorem n_while {c : Expr} {body : List Stmt} {ρl : S₁ → List Slot} {mc : S₁ → Res Bool} {f : S₁ → Res S₁} {s0 : S₁} (N : Nat) (C : CtxOk X W lv) (hc : ∀ s, TJ X W (ρl s) c (mc s)) (h0 : Wk ρ (ρl s0)) (hb : ∀ s, SN X W ρe (ρl s) body ρl (f s)) (w : ∀ s, WkO (ρl s) ρe := by intro _; trivial) :
    N1 X W ρe ρ (.While c body [] pos) ρl (whileM mc f N s0) := by
  have hx : ∃ tb : TS, PSs X body tb ∧ ∀ s, SNp X W ρe (ρl s) tb ρl (f s) := by
    refine ⟨fun D σ H => ∃ s, (∃ tb, PSs X body tb ∧ SNp X W ρe (ρl s) tb ρl (f s)) ∧ ∃ S own, RS X.K S (ρl s) σ H own ∧ Post (f s) (NxP X.K S own H D.nx ρl) (ErrS X.K W S own H ρe), ⟨fun pins s σ H D I h => ?_⟩, fun s S own σ H D rs h => ⟨s, (hb s).ex, S, own, rs, h⟩⟩
    obtain ⟨s, ⟨tb, p, q⟩, S, own, rs, h⟩ := h
    exact p.run pins _ σ H D I (q S own σ H D rs h)
  have hy : ∃ tc : TT, PT X c tc ∧ ∀ s, TJp X W (ρl s) tc (mc s) := by
    refine ⟨fun σ H Q => ∃ s, (∃ tc, PT X c tc ∧ TJp X W (ρl s) tc (mc s)) ∧ ∃ S own, RS X.K S (ρl s) σ H own ∧ Post (mc s) (fun b => ∀ H', Same H H' → Q b H') (ErrX X W S own σ H), ⟨fun pins s σ H Q I h => ?_⟩, fun s S own σ H Q rs h => ⟨s, (hc s).ex, S, own, rs, h⟩⟩
    obtain ⟨s, ⟨tc, p, q⟩, S, own, rs, h⟩ := h
    exact p.run pins _ σ H Q I (q S own σ H Q rs h)
  obtain ⟨tb, pb, qb⟩ := hx
  obtain ⟨tc, pc, qc⟩ := hy
  refine ⟨_, ps_while C.po pc pb, fun S own σ H D rs h => ?_⟩
  refine ⟨fun k σ' H' => ∃ s own', Ext own H own' H' ∧ RS X.K S (ρl s) σ' H' own' ∧ Post (whileM mc f k s) (NxP X.K S own H D.nx ρl) (ErrS X.K W S own H ρe), ⟨N, s0, own, Ext.refl, rs.wk h0, h⟩, fun k σ' H' hW => ?_⟩
  obtain ⟨s, own', x1, rs', hp⟩ := hW
  cases k with
  | zero => exact hp.elim
  | succ k =>
    refine qc s S own' σ' H' _ rs' ((show Post ((mc s).bind _) _ _ from hp).bind.imp (fun b hb H2 s2 => ?_) fun _ z => (z.mono x1).toX rs' (w s))
    have x2 := x1.trans (Ext.of_same (as := own') s2)
    cases b with
    | true =>
      rw [if_pos rfl]
      refine ⟨fun σ3 H3 => ∃ s' own3, Ext own H own3 H3 ∧ RS X.K S (ρl s') σ3 H3 own3 ∧ Post (whileM mc f k s') (NxP X.K S own H D.nx ρl) (ErrS X.K W S own H ρe), fun σ3 H3 hN => ⟨k, Nat.lt_succ_self _, hN⟩, ?_⟩
      exact qb s S own' σ' H2 _ (rs'.mono s2) ((show Post ((f s).bind _) _ _ from hb).bind.imp (fun s' hs' σ4 H4 own4 x4 rs4 => ⟨s', own4, x2.trans x4, rs4, hs'⟩) fun _ z => z.mono x2)
    | false =>
      rw [if_neg Bool.false_ne_true]
      exact (show NxP X.K S own H D.nx ρl s from hb) σ' H2 own' x2 (rs'.mono s2)
theorem c_while {c : Expr} {body : List Stmt} {ρl : S₁ → List Slot} {mc : S₁ → Res Bool} {f : S₁ → Res (Ctl S₁ S₁ R)} {s0 : S₁} (N : Nat) (C : CtxOk X W lv) (hc : ∀ s, TJ X W (ρl s) c (mc s)) (h0 : Wk ρ (ρl s0)) (hb : ∀ s, SC X W ρe (ρl s) body ρl ρl Z (f s)) (w : ∀ s, WkO (ρl s) ρe := by intro _; trivial) :
    C1 X W ρe ρ (.While c body [] pos) ρl b Z (whileC mc f N s0) := by
  have hx : ∃ tb : TS, PSs X body tb ∧ ∀ s, SCp X W ρe (ρl s) tb ρl ρl Z (f s) := by
    refine ⟨fun D σ H => ∃ s, (∃ tb, PSs X body tb ∧ SCp X W ρe (ρl s) tb ρl ρl Z (f s)) ∧ ∃ S own, RS X.K S (ρl s) σ H own ∧ Post (f s) (CtlP X.K S own H D ρl ρl Z) (ErrS X.K W S own H ρe), ⟨fun pins s σ H D I h => ?_⟩, fun s S own σ H D rs h => ⟨s, (hb s).ex, S, own, rs, h⟩⟩
    obtain ⟨s, ⟨tb, p, q⟩, S, own, rs, h⟩ := h
    exact p.run pins _ σ H D I (q S own σ H D rs h)
  have hy : ∃ tc : TT, PT X c tc ∧ ∀ s, TJp X W (ρl s) tc (mc s) := by
    refine ⟨fun σ H Q => ∃ s, (∃ tc, PT X c tc ∧ TJp X W (ρl s) tc (mc s)) ∧ ∃ S own, RS X.K S (ρl s) σ H own ∧ Post (mc s) (fun b => ∀ H', Same H H' → Q b H') (ErrX X W S own σ H), ⟨fun pins s σ H Q I h => ?_⟩, fun s S own σ H Q rs h => ⟨s, (hc s).ex, S, own, rs, h⟩⟩
    obtain ⟨s, ⟨tc, p, q⟩, S, own, rs, h⟩ := h
    exact p.run pins _ σ H Q I (q S own σ H Q rs h)
  obtain ⟨tb, pb, qb⟩ := hx
  obtain ⟨tc, pc, qc⟩ := hy
  refine ⟨_, ps_while C.po pc pb, fun S own σ H D rs h => ?_⟩
  refine ⟨fun k σ' H' => ∃ s own', Ext own H own' H' ∧ RS X.K S (ρl s) σ' H' own' ∧ Post (whileC mc f k s) (CtlP X.K S own H D ρl b Z) (ErrS X.K W S own H ρe), ⟨N, s0, own, Ext.refl, rs.wk h0, h⟩, fun k σ' H' hW => ?_⟩
  obtain ⟨s, own', x1, rs', hp⟩ := hW
  cases k with
  | zero => exact hp.elim
  | succ k =>
    refine qc s S own' σ' H' _ rs' ((show Post ((mc s).bind _) _ _ from hp).bind.imp (fun b hb H2 s2 => ?_) fun _ z => (z.mono x1).toX rs' (w s))
    have x2 := x1.trans (Ext.of_same (as := own') s2)
    cases b with
    | true =>
      rw [if_pos rfl]
      refine ⟨fun σ3 H3 => ∃ s' own3, Ext own H own3 H3 ∧ RS X.K S (ρl s') σ3 H3 own3 ∧ Post (whileC mc f k s') (CtlP X.K S own H D ρl _ Z) (ErrS X.K W S own H ρe), fun σ3 H3 hN => ⟨k, Nat.lt_succ_self _, hN⟩, ?_⟩
      refine qb s S own' σ' H2 _ (rs'.mono s2) ((show Post ((f s).bind _) _ _ from hb).bind.imp (fun z hz => ?_) fun _ z => z.mono x2)
      cases z with
      | nx s' => exact fun σ4 H4 own4 x4 rs4 => ⟨s', own4, x2.trans x4, rs4, hz⟩
      | ct s' => exact fun σ4 H4 own4 x4 rs4 => ⟨s', own4, x2.trans x4, rs4, hz⟩
      | bk s' => exact NxP.mono (show NxP X.K S own H D.nx ρl s' from hz) x2
      | rt r => exact RtP.mono (show RtP X.K S own H D.rt Z r from hz) x2
    | false =>
      rw [if_neg Bool.false_ne_true]
      exact (show NxP X.K S own H D.nx ρl s from hb) σ' H2 own' x2 (rs'.mono s2)

/-! ### comprehensions -/
abbrev WF : WX := fun _ _ _ _ => False
def lcX {T U : Type} (t : T → Res Bool) (f : T → Res U) (xs : List T) : Res (List U) := guardR (decide (xs.length ≤ sizeLine)) (lcM t f xs)
def wipeS (ρ : List Slot) : List Nat → List Slot
  | [] => ρ
  | v :: vs => (wipeS ρ vs).set v .non
theorem Rs.forget {K : PySem.W.Frag} {Hs H : Hp} {o : Option V} {σ : St} {ads : List Addr} (r : Rs K Hs H ρ σ ads) : ∀ i : Nat, ∃ ads', Rs K Hs H (ρ.set i .non) (σ.set i o) ads' ∧ ads'.Sublist ads := by
  induction r with
  | nil => intro i; exact ⟨[], .nil, List.Sublist.refl _⟩
  | non r ih =>
    intro i
    cases i with
    | zero => exact ⟨_, .non r, List.Sublist.refl _⟩
    | succ i => obtain ⟨a, q1, q2⟩ := ih i; exact ⟨a, .non q1, q2⟩
  | val h1 r ih =>
    intro i
    cases i with
    | zero => exact ⟨_, .non r, List.Sublist.refl _⟩
    | succ i => obtain ⟨a, q1, q2⟩ := ih i; exact ⟨a, .val h1 q1, q2⟩
  | own h0 h1 h2 r ih =>
    intro i
    cases i with
    | zero => exact ⟨_, .non r, List.sublist_cons_self _ _⟩
    | succ i => obtain ⟨a, q1, q2⟩ := ih i; exact ⟨_, .own h0 h1 h2 q1, q2.cons₂ _⟩
theorem RS.forget {K : PySem.W.Frag} {S own : List Addr} {σ : St} {H : Hp} (r : RS K S ρ σ H own) (i : Nat) (o : Option V) : RS K S (ρ.set i .non) (σ.set i o) H own := by
  obtain ⟨⟨ads, h1, h2, h3⟩, h4, h5⟩ := r
  obtain ⟨ads', q1, q2⟩ := h1.forget (o := o) i
  exact ⟨⟨ads', q1, h2.sublist q2, fun a ha => h3 a (q2.subset ha)⟩, h4, h5⟩
theorem RS.wipe {K : PySem.W.Frag} {S own : List Addr} {σ : St} {H : Hp} (r : RS K S ρ σ H own) : ∀ vs : List Nat, RS K S (wipeS ρ vs) (wipe σ vs) H own
  | [] => r
  | v :: vs => (RS.wipe r vs).forget v none
theorem wipe_wipe (σ : St) : ∀ vs ws : List Nat, (∀ i ∈ vs, i ∈ ws) → L2.wipe (L2.wipe σ vs) ws = L2.wipe σ ws
  | [], _, _ => rfl
  | v :: vs, ws, h => by
    show L2.wipe ((L2.wipe σ vs).set v none) ws = _
    rw [wipe_set (h v List.mem_cons_self)]
    exact wipe_wipe σ vs ws fun i hi => h i (List.mem_cons_of_mem _ hi)
theorem RS.hideNew {K : PySem.W.Frag} {S own : List Addr} {σ : St} {H H' : Hp} {D : Addr} {o : HO} (rs : RS K S ρ σ H own) (s : Same H H') (na : H D = none) (e : H' D = some o) : RS K S ρ σ H' (D :: own) := by
  obtain ⟨⟨ads, h1, h2, h3⟩, h4, h5⟩ := rs
  refine ⟨⟨ads, h1.mono (same_hide_new s na) fun b _ o q => s b o q, h2, fun b hb => List.mem_cons_of_mem _ (h3 b hb)⟩, fun b hb => ?_, fun b hb => ?_⟩
  · rcases List.mem_cons.mp hb with z | z
    · exact z ▸ fun q => h5 D (List.mem_append_left _ q) na
    · exact h4 b z
  · rcases List.mem_append.mp hb with z | z
    · exact dom_same s (h5 b (List.mem_append_left _ z))
    · rcases List.mem_cons.mp z with z | z
      · rw [z, e]; intro q; cases q
      · exact dom_same s (h5 b (List.mem_append_right _ z))
structure LcPart (X : Cx) (scope : Scope) (ρw : List Slot) (tg elt : Expr) (ifs : List Expr) {T U : Type} [Rp T] [Rp U] (u : List Slot → T → List Slot) (js : List Nat) (t : T → Res Bool) (f : T → Res U) (s : Shared) (H : Hp) (C : Addr) (cl : List (Str × Addr)) (fp : List Addr) : Prop where
  tg : GJ (X.blk s H scope (compEnvC scope cl C X.env) fp) tg u js
  ts : ∀ x, ∃ tt, PTs (X.blk s H scope (compEnvC scope cl C X.env) fp) ifs tt ∧ TJp (X.blk s H scope (compEnvC scope cl C X.env) fp) WF (u ρw x) tt (t x)
  el : ∀ x, EG (X.blk s H scope (compEnvC scope cl C X.env) fp) WF true (u ρw x) elt (f x)
theorem lc_none {ρ : List Slot} {Y : Cx} : ∃ tt, PTs Y [] tt ∧ TJp Y WF ρ tt (.ok true) := ⟨_, pts_nil, fun S own σ H Q rs h => h H (Same.refl H)⟩
theorem lc_one {ρ : List Slot} {Y : Cx} {c : Expr} {m : Res Bool} (h : TJ Y WF ρ c m) : ∃ tt, PTs Y [c] tt ∧ TJp Y WF ρ tt m := by
  obtain ⟨t, p, q⟩ := h.ex
  exact ⟨_, pts_one p, q⟩
theorem quiet_no {α : Type} {m : Res α} {ex : Ex} : m.quiet ≠ .err ex := by cases m <;> intro h <;> cases h
theorem lcM_no {α β : Type} {t : α → Res Bool} {f : α → Res β} {xs : List α} {ex : Ex} : lcM t f xs ≠ .err ex := by
  induction xs with
  | nil => intro h; cases h
  | cons x r ih =>
    unfold lcM
    cases e1 : (t x).quiet with
    | bad => intro h; cases h
    | err z => exact absurd e1 quiet_no
    | ok b =>
      cases b with
      | false => exact ih
      | true =>
        show ((f x).quiet.bind _) ≠ _
        cases e2 : (f x).quiet with
        | bad => intro h; cases h
        | err z => exact absurd e2 quiet_no
        | ok y =>
          show ((lcM t f r).bind _) ≠ _
          cases e3 : lcM t f r with
          | bad => intro h; cases h
          | err z =>
            intro h
            cases h
            exact ih e3
          | ok ys => intro h; cases h
/-- the reading of a comprehension -/
theorem lc_read {K : PySem.W.Frag} {vs : List Nat} {ρw : List Slot} {u : List Slot → T → List Slot} {js : List Nat} {t : T → Res Bool} {f : T → Res U} {gt : TG} {tt : TT} {te : TE} {xs : List T} {J : It} {S own : List Addr} {σ : St} {H1 : Hp} {Q : VK}
    (hj : ∀ i ∈ js, i ∈ vs) (rs : RS K S ρ σ H1 own) (hw : ρw = wipeS ρ vs) (wj : WJ K (S ++ own) H1 J xs)
    (hg : ∀ (S own : List Addr) (ρ : List Slot) (σ : St) (H : Hp) (v : V) (x : T) (Q : St → Hp → Prop), RS K S ρ σ H own → rp K (hide (S ++ own) H) v x → (∀ σ', RS K S (u ρ x) σ' H own → (∀ vs : List Nat, (∀ i ∈ js, i ∈ vs) → wipe σ' vs = wipe σ vs) → Q σ' H) → gt v σ H Q)
    (ht : ∀ (x : T) (S own : List Addr) (σ : St) (H : Hp) (Q : Bool → Hp → Prop), RS K S (u ρw x) σ H own → Post (t x).quiet (fun b => ∀ H', Same H H' → Q b H') (fun _ => True) → tt σ H Q)
    (he : ∀ (x : T) (S own : List Addr) (σ : St) (H : Hp) (Q : VK), RS K S (u ρw x) σ H own → Post (f x).quiet (fun y => ∀ H' v, Same H H' → rp K (hide (S ++ own) H') v y → Q v H') (fun _ => True) → te σ H Q)
    (hp : Post (lcX t f xs) (fun ys => ∀ H' a vs, Same H1 H' → H1 a = none → H' a = some (.lst vs) → RpAll K (hide (a :: (S ++ own)) H') vs ys → Q (.ref a) H') (fun _ => True)) :
    ∀ D, H1 D = none → ∃ W : Nat → Nat → Hp → Prop, (∃ m, W 0 m (upd H1 D (.lst []))) ∧ ∀ i m H, W i m H →
      (J.stop i H ∧ Q (.ref D) H) ∨ (J.go i H ∧ ∃ Nx : Hp → Prop, (∀ H', Nx H' → ∃ m', m' < m ∧ W (i + 1) m' H') ∧ ∀ x H', J.yld i H x H' → gt x (wipe σ vs) H' fun σ2 H2 => wipe σ2 vs = wipe σ vs ∧ tt σ2 H2 fun b H3 =>
        if b = true then te σ2 H3 fun y H4 => ∃ acc, H4 D = some (.lst acc) ∧ acc.length < sizeLine ∧ Nx (upd H4 D (.lst (acc ++ [y]))) else Nx H3) := by
  intro D nD
  obtain ⟨hz, hp⟩ := hp.guard
  have hz : xs.length ≤ sizeLine := of_decide_eq_true hz
  let I : Nat → Hp → Prop := fun i H' => ∃ acc ys, Same H1 H' ∧ H' D = some (.lst acc) ∧ acc.length ≤ i ∧ RpAll K (hide (S ++ D :: own) H') acc ys ∧
    Post (lcM t f (xs.drop i)) (fun zs => ∀ H' a vs, Same H1 H' → H1 a = none → H' a = some (.lst vs) → RpAll K (hide (a :: (S ++ own)) H') vs (ys ++ zs) → Q (.ref a) H') (fun _ => True)
  refine ⟨fun i m H' => i + m = xs.length ∧ I i H', ⟨xs.length, Nat.zero_add _, [], [], same_upd nD, upd_same, Nat.zero_le _, .nil, hp⟩, fun i m H' hW => ?_⟩
  obtain ⟨em, acc, ys, sm, eD, la, ra, hq⟩ := hW
  have rsD : RS K S ρ σ H' (D :: own) := rs.hideNew sm nD eD
  have sight : Same (hide (S ++ own) H1) (hide (S ++ D :: own) H') := same_hide_new sm nD
  by_cases hi : i < xs.length
  · refine .inr ⟨wj.goes i H' hi (sight.trans hide_sub), I (i + 1), fun H2 hN => ⟨m - 1, by omega, by omega, hN⟩, fun v H2 hy => ?_⟩
    obtain ⟨s2, r2⟩ := wj.yields i H' v H2 xs[i] (S ++ D :: own) (List.getElem?_eq_getElem hi) sight rsD.dom hy
    have rs2 := rsD.mono s2
    rw [List.drop_eq_getElem_cons hi] at hq
    refine hg S (D :: own) ρw (wipe σ vs) H2 v xs[i] _ (hw ▸ rs2.wipe vs) r2 fun σ3 rs3 tz => ⟨(tz vs hj).trans (wipe_wipe σ vs vs fun _ h => h), ?_⟩
    refine ht xs[i] S (D :: own) σ3 H2 _ rs3 ((show Post ((t xs[i]).quiet.bind _) _ _ from hq).bind.imp (fun b hb H3 s3 => ?_) fun _ z => z)
    have s23 := s2.trans s3
    cases b with
    | false =>
      rw [if_neg Bool.false_ne_true]
      exact ⟨acc, ys, sm.trans s23, s23 _ _ eD, by omega, RpAll.mono (hide_same s23) ra, hb⟩
    | true =>
      rw [if_pos rfl]
      refine he xs[i] S (D :: own) σ3 H3 _ (rs3.mono s3) ((show Post ((f xs[i]).quiet.bind _) _ _ from hb).bind.imp (fun y hy H4 w s4 r4 => ?_) fun _ z => z)
      have s24 := s23.trans s4
      have hin : D ∈ S ++ D :: own := List.mem_append_right _ List.mem_cons_self
      refine ⟨acc, s24 _ _ eD, by omega, acc ++ [w], ys ++ [y], fun b o eb => ?_, upd_same, by rw [List.length_append]; exact Nat.succ_le_succ la, ?_, ?_⟩
      · rw [upd_ne (ne_of_none eb nD)]
        exact (sm.trans s24) b o eb
      · rw [hide_upd_in hin]
        exact (RpAll.mono (hide_same s24) ra).append (.cons r4 .nil)
      · refine (show Post ((lcM t f (xs.drop (i + 1))).bind fun ys => .ok (y :: ys)) _ _ from hy).bind.imp (fun zs hzs H5 a vs5 s5 na e5 r5 => ?_) fun _ z => z
        rw [List.append_assoc] at r5
        exact hzs H5 a vs5 s5 na e5 r5
  · refine .inl ⟨?_, ?_⟩
    · have e1 : i = xs.length := by omega
      rw [e1]
      exact wj.stops H' (sight.trans hide_sub)
    · rw [List.drop_eq_nil_of_le (by omega)] at hq
      refine (show ∀ H' a vs, _ from hq) H' D acc sm nD eD ?_
      rw [List.append_nil]
      refine RpAll.mono (hide_mono fun b hb => ?_) ra
      rcases List.mem_cons.mp hb with z | z
      · exact z ▸ List.mem_append_right _ List.mem_cons_self
      · rcases List.mem_append.mp z with z | z
        · exact List.mem_append_left _ z
        · exact List.mem_append_right _ (List.mem_cons_of_mem _ z)
theorem Post.quiet_of {α : Type} {m : Res α} {Q : α → Prop} {E E' : Ex → Prop} (h : Post m.quiet Q E) : Post m Q E' := h.quiet
/-- target, tests and element of a comprehension, for all its frames at once -/
theorem lc_uni {scope : Scope} {ρw : List Slot} {elt : Expr} {ifs : List Expr} {u : List Slot → T → List Slot} {js : List Nat} {t : T → Res Bool} {f : T → Res U} (h : ∀ s H C cl fp, LcPart X scope ρw tg elt ifs u js t f s H C cl fp) :
    ∃ (gt : TG) (tt : TT) (te : TE), (∀ s H C cl fp, PG (X.blk s H scope (compEnvC scope cl C X.env) fp) tg gt) ∧ (∀ s H C cl fp, PTs (X.blk s H scope (compEnvC scope cl C X.env) fp) ifs tt) ∧ (∀ s H C cl fp, PE (X.blk s H scope (compEnvC scope cl C X.env) fp) elt te) ∧
      (∀ (S own : List Addr) (ρ : List Slot) (σ : St) (H : Hp) (v : V) (x : T) (Q : St → Hp → Prop), RS X.K S ρ σ H own → rp X.K (hide (S ++ own) H) v x → (∀ σ', RS X.K S (u ρ x) σ' H own → (∀ vs : List Nat, (∀ i ∈ js, i ∈ vs) → wipe σ' vs = wipe σ vs) → Q σ' H) → gt v σ H Q) ∧
      (∀ (x : T) (S own : List Addr) (σ : St) (H : Hp) (Q : Bool → Hp → Prop), RS X.K S (u ρw x) σ H own → Post (t x).quiet (fun b => ∀ H', Same H H' → Q b H') (fun _ => True) → tt σ H Q) ∧
      (∀ (x : T) (S own : List Addr) (σ : St) (H : Hp) (Q : VK), RS X.K S (u ρw x) σ H own → Post (f x).quiet (fun y => ∀ H' v, Same H H' → rp X.K (hide (S ++ own) H') v y → Q v H') (fun _ => True) → te σ H Q) := by
  refine ⟨fun v σ H Q => ∀ s0 H0 C cl fp, ∃ gt, PG (X.blk s0 H0 scope (compEnvC scope cl C X.env) fp) tg gt ∧ gt v σ H Q,
    fun σ H Q => ∀ s0 H0 C cl fp, ∃ tt, PTs (X.blk s0 H0 scope (compEnvC scope cl C X.env) fp) ifs tt ∧ tt σ H Q,
    fun σ H Q => ∀ s0 H0 C cl fp, ∃ te, PE (X.blk s0 H0 scope (compEnvC scope cl C X.env) fp) elt te ∧ te σ H Q, ?_, ?_, ?_, ?_, ?_, ?_⟩
  · refine fun s H C cl fp => ⟨fun pins s1 σ H1 v w Q I r hq => ?_⟩
    obtain ⟨gt, p, q⟩ := hq s H C cl fp
    exact p.run pins s1 σ H1 v w Q I r q
  · refine fun s H C cl fp => ⟨fun pins s1 σ H1 Q I hq => ?_⟩
    obtain ⟨tt, p, q⟩ := hq s H C cl fp
    exact p.run pins s1 σ H1 Q I q
  · refine fun s H C cl fp => ⟨fun pins s1 σ H1 Q I hq => ?_⟩
    obtain ⟨te, p, q⟩ := hq s H C cl fp
    exact p.run pins s1 σ H1 Q I q
  · intro S own ρ σ H v x Q rs r hq s0 H0 C cl fp
    obtain ⟨gt, p, q⟩ := (h s0 H0 C cl fp).tg.ex
    exact ⟨gt, p, q S own ρ σ H v x Q rs r hq⟩
  · intro x S own σ H Q rs hq s0 H0 C cl fp
    obtain ⟨tt, p, q⟩ := (h s0 H0 C cl fp).ts x
    exact ⟨tt, p, q S own σ H Q rs hq.quiet⟩
  · intro x S own σ H Q rs hq s0 H0 C cl fp
    obtain ⟨te, p, q⟩ := ((h s0 H0 C cl fp).el x).ex
    exact ⟨te, p, q S own σ H Q rs hq.quiet⟩
theorem lcX_quiet {α β : Type} {t : α → Res Bool} {f : α → Res β} {xs : List α} {Q : List β → Prop} {E E' : Ex → Prop} (h : Post (lcX t f xs) Q E) : Post (lcX t f xs) Q E' := by
  obtain ⟨h1, h2⟩ := h.guard
  unfold lcX guardR
  rw [h1, if_pos rfl]
  cases e1 : lcM t f xs with
  | ok a => rw [e1] at h2; exact h2
  | bad => rw [e1] at h2; exact h2
  | err z => exact absurd e1 lcM_no
theorem f_lc {elt iter : Expr} {ifs : List Expr} {scope : Scope} {ow : List (Str × Nat)} {ρw : List Slot} {u : List Slot → T → List Slot} {js : List Nat} {t : T → Res Bool} {f : T → Res U} {m : Res (List T)} (C : CtxOk X W lv) (hi : IJ X W ρ tg iter m)
    (h : ∀ s H C cl fp, LcPart X scope ρw tg elt ifs u js t f s H C cl fp) (hw : ρw = wipeS ρ (ow.map (·.2)) := by rfl) (hj : ∀ i ∈ js, i ∈ ow.map (·.2) := by decide) (ok : BlkOk X.N X.env.scope scope ow := by exact blkOk_by (by rfl)) (hs : ∀ x, foldedSetIterable iter X.env x = pure x := by intro _; rfl) :
    FG X W ρ (.ListComp elt [⟨tg, iter, ifs, 0⟩] scope pos) (m.bind fun xs => lcX t f xs) := by
  obtain ⟨wi, pi, qi⟩ := hi.ex
  obtain ⟨gt, tt, te, pg, pt, pe, hg, ht, he⟩ := lc_uni h
  refine ⟨_, pe_lc C.calm C.nd pi ok pg pt pe hs, fun S own σ H Q rs hP => qi S own σ H _ rs (hP.bind.imp (fun xs hx J H1 s1 wj => ?_) fun _ z => z)⟩
  refine lc_read hj (rs.mono s1) hw wj hg ht he (Post.imp (lcX_quiet hx (E' := fun _ => True)) (fun ys hy H' a vs s na e1 e2 => hy H' a vs (s1.trans s) (s1.free na) e1 e2) fun _ z => z)
/-- y = [..], a local -/
theorem n_lcF (i : Nat) {y : Str} {py spos : Pos} {elt iter : Expr} {ifs : List Expr} {scope : Scope} {ow : List (Str × Nat)} {ρw : List Slot} {u : List Slot → T → List Slot} {js : List Nat} {t : T → Res Bool} {f : T → Res U} {m : Res (List T)} {n3 : List U → List Slot} (C : CtxOk X W lv) (hi : IJ X W ρ tg iter m)
    (h : ∀ s H C cl fp, LcPart X scope ρw tg elt ifs u js t f s H C cl fp) (hn : ∀ v, n3 v = ρ.set i (.own U none v) := by intro _; rfl) (hw : ρw = wipeS ρ (ow.map (·.2)) := by rfl) (hl : i < ρ.length := by exact Nat.le_of_ble_eq_true rfl) (hj : ∀ i ∈ js, i ∈ ow.map (·.2) := by decide) (w : WkO ρ ρe := by first | exact True.intro | (repeat (first | exact Wk.nil | refine Wk.s ?_ | refine Wk.n ?_)))
    (hy : X.N[i]? = some y := by rfl) (hyl : X.env.scope.names.lookup y = some .local := by rfl) (hsw : swapsWith (.ListComp elt [⟨tg, iter, ifs, 0⟩] scope pos) (some (.Name y py)) spos.line X.env = pure true := by exact sw_true rfl rfl rfl (by decide +kernel))
    (ok : BlkOk X.N X.env.scope scope ow := by exact blkOk_by (by rfl)) (hs : ∀ x, foldedSetIterable iter X.env x = pure x := by intro _; rfl) :
    N1 X W ρe ρ (.Assign [.Name y py] (.ListComp elt [⟨tg, iter, ifs, 0⟩] scope pos) spos) n3 (m.bind fun xs => lcX t f xs) := by
  obtain ⟨wi, pi, qi⟩ := hi.ex
  obtain ⟨gt, tt, te, pg, pt, pe, hg, ht, he⟩ := lc_uni h
  refine ⟨_, ps_setLc C.calm C.nd hy hyl hsw pi ok pg pt pe hs, fun S own σ H D rs hP => qi S own σ H _ rs (hP.bind.imp (fun xs hx J H1 s1 wj => ?_) fun _ z => z.toX rs w)⟩
  refine lc_read (Q := fun v H2 => D.nx (σ.set i (some v)) H2) hj (rs.mono s1) hw wj hg ht he (Post.imp (lcX_quiet hx (E' := fun _ => True)) (fun ys hy H' a vs s na e1 e2 => hy _ H' (a :: own) ⟨fun b o z _ => (s1.trans s) b o z, fun b z => dom_same (s1.trans s) z, fun b z => ?_⟩ ?_) fun _ z => z)
  · rcases List.mem_cons.mp z with z | z
    · exact .inr (z ▸ s1.free na)
    · exact .inl z
  · rw [hn]
    exact rs.setOwn (s1.trans s) (s1.free na) e1 e2 i hl
/-- .. only read from then on -/
theorem n_lc (i : Nat) {y : Str} {py spos : Pos} {elt iter : Expr} {ifs : List Expr} {scope : Scope} {ow : List (Str × Nat)} {ρw : List Slot} {u : List Slot → T → List Slot} {js : List Nat} {t : T → Res Bool} {f : T → Res U} {m : Res (List T)} {n3 : List U → List Slot} (C : CtxOk X W lv) (hi : IJ X W ρ tg iter m)
    (h : ∀ s H C cl fp, LcPart X scope ρw tg elt ifs u js t f s H C cl fp) (hn : ∀ v, n3 v = ρ.set i (.val (List U) v) := by intro _; rfl) (hw : ρw = wipeS ρ (ow.map (·.2)) := by rfl) (hj : ∀ i ∈ js, i ∈ ow.map (·.2) := by decide) (w : WkO ρ ρe := by first | exact True.intro | (repeat (first | exact Wk.nil | refine Wk.s ?_ | refine Wk.n ?_)))
    (hy : X.N[i]? = some y := by rfl) (hyl : X.env.scope.names.lookup y = some .local := by rfl) (hsw : swapsWith (.ListComp elt [⟨tg, iter, ifs, 0⟩] scope pos) (some (.Name y py)) spos.line X.env = pure true := by exact sw_true rfl rfl rfl (by decide +kernel))
    (ok : BlkOk X.N X.env.scope scope ow := by exact blkOk_by (by rfl)) (hs : ∀ x, foldedSetIterable iter X.env x = pure x := by intro _; rfl) :
    N1 X W ρe ρ (.Assign [.Name y py] (.ListComp elt [⟨tg, iter, ifs, 0⟩] scope pos) spos) n3 (m.bind fun xs => lcX t f xs) := by
  obtain ⟨wi, pi, qi⟩ := hi.ex
  obtain ⟨gt, tt, te, pg, pt, pe, hg, ht, he⟩ := lc_uni h
  refine ⟨_, ps_setLc C.calm C.nd hy hyl hsw pi ok pg pt pe hs, fun S own σ H D rs hP => qi S own σ H _ rs (hP.bind.imp (fun xs hx J H1 s1 wj => ?_) fun _ z => z.toX rs w)⟩
  refine lc_read (Q := fun v H2 => D.nx (σ.set i (some v)) H2) hj (rs.mono s1) hw wj hg ht he (Post.imp (lcX_quiet hx (E' := fun _ => True)) (fun ys hy H' a vs s na e1 e2 => hy _ H' own (Ext.of_same (s1.trans s)) ?_) fun _ z => z)
  rw [hn]
  have e3 : hide (S ++ own) H' a = some (.lst vs) := by
    rw [hide_out fun z => (rs.mono s1).dom a z na]
    exact e1
  have r : rp X.K (hide (S ++ own) H') (V.ref a) ys := ⟨a, vs, rfl, e3, RpAll.mono (hide_mono fun z hz => List.mem_cons_of_mem _ hz) e2⟩
  exact (rs.mono (s1.trans s)).set r i
theorem passN {X : Cx} : Passes (L2N.CX X.prog X.w) X E0 := fun _ _ _ _ _ _ _ q => by
  rcases q with ⟨_, _, _, _, _, _, _, _, _, _, _, _, z⟩
  exact z.elim
theorem takesN {X : Cx} : L2N.Takes X (fun _ _ _ _ => False) := fun _ _ q => by
  rcases q with ⟨_, _, _, _, _, _, _, _, _, _, _, _, _, _, _, _, z⟩
  exact z.elim
/-- the frame of a comprehension's block -/
theorem CtxOk.blk (C : CtxOk X W lv) {s : Shared} {H : Hp} {scope : Scope} {cenv : Env} {fp : List Addr} : CtxOk (X.blk s H scope cenv fp) WF lv :=
  ⟨C.calm, C.nd, takesN, PassesOwn.never, C.room⟩

/-! ### calls of defs -/
def spOf (K : PySem.W.Frag) {A R : Type} [Rp R] (as : A → List AV) (f : A → Res R) : Sp := fun vs H Q E => ∃ (S : List Addr) (x : A), (∀ a ∈ S, H a ≠ none) ∧ ArgsR K (hide S H) vs (as x) ∧
  Post (f x) (fun r => ∀ H' v, Same H H' → rp K (hide S H') v r → Q v H') (fun e => ∀ H' c d, Same H H' → ExR K (hide S H') c d e → E c d H')
def spFr (K : PySem.W.Frag) {A T : Type} [Rp T] (as : A → List AV) (f : A → Res (List T)) : Sp := fun vs H Q E => ∃ (S : List Addr) (x : A), (∀ a ∈ S, H a ≠ none) ∧ ArgsR K (hide S H) vs (as x) ∧
  Post (f x) (fun r => ∀ H' a vs, Same H H' → H a = none → H' a = some (.lst vs) → RpAll K (hide (a :: S) H') vs r → Q (.ref a) H') (fun e => ∀ H' c d, Same H H' → ExR K (hide S H') c d e → E c d H')
structure FOk (P : Program) (w : World) (K : PySem.W.Frag) (mg : Str → Option Value) (base : Heap) (name : Str) (k : Nat) (sp : Sp) : Prop where
  ok : ∃ fd ps, FnOk P w K mg base (L2N.CX P w) k (He.ga K name) fd ps sp ∧ Binds K fd ps []
  kp : PySem.W.keepIn K (.ref (He.ga K name)) = true
  gl : mg name = some (.ref (He.ga K name))
theorem call_err {S own : List Addr} {σ : St} {H H' : Hp} {g : Bool} {ex : Ex} (h : ErrX X W S own σ H ex) (s : Same H H') (hg : g = true) : ∀ H2 c d, Same H' H2 → ExR X.K (hide (reg g S own) H2) c d ex → WE W σ c d H2 := fun H2 c d s2 x => by
  subst hg
  exact h H2 c d (s.trans s2) x
theorem e_call {x : Str} {p : Pos} {es : List Expr} {A R : Type} [Rp R] {as : A → List AV} {f : A → Res R} {m : Res R} {k : Nat} (C : CtxOk X W lv) (F : FOk X.prog X.w X.K X.mg X.base x k (spOf X.K as f)) (ha : AJ X W true ρ (a :: es) as f m) (hk : k ≤ lv := by decide)
    (hg : Gl X x := by rfl) (hdb : (x == ("__debug__" : Str)) = false := by decide) (he : starEach (a :: es) X.env = (false, eval a X.env) :: starEach es X.env := by rfl) (hpl : (backTo pos (starEach es X.env)).any (·.1) = false := by rfl) :
    EG X W true ρ (.Call (.Name x p) (a :: es) [] pos) m := by
  obtain ⟨t, pa, qa⟩ := ha.ex
  obtain ⟨fd, ps, F1, F2⟩ := F.ok
  refine ⟨_, pe_callS F1 (C.room.mono hk) hg F.gl F.kp F2 (fun σ => L2N.passAt C.tk σ) pa hdb he hpl, fun S own σ H Q rs h => ?_⟩
  refine qa S own σ H _ _ _ rs (fun e z => z) h fun x vs H' s r hx => ⟨S ++ own, x, (rs.mono s).dom, r, hx.imp (fun y hy H2 v s2 r2 => hy H2 v (s.trans s2) r2) fun ex z => call_err (g := true) z s rfl⟩
theorem e_call0 {x : Str} {p : Pos} {A R : Type} [Rp R] {as : A → List AV} {f : A → Res R} {k : Nat} (C : CtxOk X W lv) (F : FOk X.prog X.w X.K X.mg X.base x k (spOf X.K as f)) (u : A) (hu : as u = [] := by rfl) (hk : k ≤ lv := by decide)
    (hg : Gl X x := by rfl) (hdb : (x == ("__debug__" : Str)) = false := by decide) : EG X W true ρ (.Call (.Name x p) [] [] pos) (f u).quiet := by
  obtain ⟨fd, ps, F1, F2⟩ := F.ok
  refine ⟨_, pe_call0 F1 (C.room.mono hk) hg F.gl F.kp F2 .nil passN hdb, fun S own σ H Q rs h => ⟨S ++ own, u, rs.dom, hu ▸ .nil, Post.imp (h.quiet (E' := fun _ => False)) (fun y hy H2 v s2 r2 => hy H2 v s2 r2) fun _ z => z.elim⟩⟩
/-- lists of one's own are lent; what would be raised is not served -/
theorem e_callb {x : Str} {p : Pos} {es : List Expr} {A R : Type} [Rp R] {as : A → List AV} {f : A → Res R} {m : Res R} {k : Nat} (C : CtxOk X W lv) (F : FOk X.prog X.w X.K X.mg X.base x k (spOf X.K as f)) (ha : AJ X W false ρ (a :: es) as (fun x => (f x).quiet) m) (hk : k ≤ lv := by decide)
    (hg : Gl X x := by rfl) (hdb : (x == ("__debug__" : Str)) = false := by decide) (he : starEach (a :: es) X.env = (false, eval a X.env) :: starEach es X.env := by rfl) (hpl : (backTo pos (starEach es X.env)).any (·.1) = false := by rfl) :
    EG X W false ρ (.Call (.Name x p) (a :: es) [] pos) m := by
  obtain ⟨t, pa, qa⟩ := ha.ex
  obtain ⟨fd, ps, F1, F2⟩ := F.ok
  refine ⟨_, pe_callS F1 (C.room.mono hk) hg F.gl F.kp F2 (fun σ => L2N.passAt C.tk σ) pa hdb he hpl, fun S own σ H Q rs h => ?_⟩
  refine qa S own σ H _ _ _ rs (fun e z => z) h fun x vs H' s r hx => ⟨S, x, fun b hb => (rs.mono s).dom b (List.mem_append_left _ hb), r, Post.imp (hx.quiet (E' := fun _ => False)) (fun y hy H2 v s2 r2 => hy H2 v (s.trans s2) r2) fun _ z => z.elim⟩
theorem f_call {x : Str} {p : Pos} {es : List Expr} {A : Type} {as : A → List AV} {f : A → Res (List T)} {m : Res (List T)} {k : Nat} (C : CtxOk X W lv) (F : FOk X.prog X.w X.K X.mg X.base x k (spFr X.K as f)) (ha : AJ X W true ρ (a :: es) as f m) (hk : k ≤ lv := by decide)
    (hg : Gl X x := by rfl) (hdb : (x == ("__debug__" : Str)) = false := by decide) (he : starEach (a :: es) X.env = (false, eval a X.env) :: starEach es X.env := by rfl) (hpl : (backTo pos (starEach es X.env)).any (·.1) = false := by rfl) :
    FG X W ρ (.Call (.Name x p) (a :: es) [] pos) m := by
  obtain ⟨t, pa, qa⟩ := ha.ex
  obtain ⟨fd, ps, F1, F2⟩ := F.ok
  refine ⟨_, pe_callS F1 (C.room.mono hk) hg F.gl F.kp F2 (fun σ => L2N.passAt C.tk σ) pa hdb he hpl, fun S own σ H Q rs h => ?_⟩
  refine qa S own σ H _ _ _ rs (fun e z => z) h fun x vs H' s r hx => ⟨S ++ own, x, (rs.mono s).dom, r, hx.imp (fun y hy H2 a vs s2 na e1 e2 => hy H2 a vs (s.trans s2) (s.free na) e1 e2) fun ex z => call_err (g := true) z s rfl⟩

/-! ### defs -/
def AV.slot : AV → Slot
  | @AV.mk T inst x => @Slot.val T inst x
theorem rs_args {K : PySem.W.Frag} {H Hs : Hp} {vs : List V} {xs : List AV} (h : ArgsR K Hs vs xs) (k : Nat) : Rs K Hs H (xs.map AV.slot ++ List.replicate k .non) (vs.map some ++ List.replicate k none) [] := by
  induction h with
  | nil =>
    induction k with
    | zero => exact .nil
    | succ k ih => exact .non ih
  | @cons v vs x xs r _ ih =>
    cases x with
    | @mk T inst x => exact @Rs.val K Hs H _ _ _ T inst x v r ih
theorem rs_start {K : PySem.W.Frag} {S : List Addr} {H : Hp} {N : List Str} {vs : List V} {xs : List AV} (h : ArgsR K (hide S H) vs xs) (hd : ∀ a ∈ S, H a ≠ none) : RS K S (xs.map AV.slot ++ List.replicate (N.length - vs.length) .non) (start N vs) H [] := by
  refine ⟨⟨[], ?_, List.nodup_nil, (fun _ z => nomatch z)⟩, (fun _ z => nomatch z), fun a ha => hd a (by rw [List.append_nil] at ha; exact ha)⟩
  rw [List.append_nil]
  exact rs_args h _
abbrev fcx (P : Program) (w : World) (K : PySem.W.Frag) (mg : Str → Option Value) (base : Heap) (N : List Str) (qual : Str) (scope : Scope) (f : Addr) (cdv : Value) (A : Around) (outer : List Env) (s : Shared) (H : Hp) (E : XK) : Cx := cxOf (L2N.CX P w) P w K mg base N qual scope f cdv A outer s H E
section
variable {P : Program} {w : World} {K : PySem.W.Frag} {mg : Str → Option Value} {base : Heap} {x qual : Str} {params : Arguments} {body : List Stmt} {scope : Scope} {kws : List (Str × V)} {fd : FuncData} {N ps : List Str} {k : Nat} {A : Type} {as : A → List AV}
theorem fctx {f : Addr} {cdv : Value} {A : Around} {outer : List Env} {s : Shared} {H : Hp} {E : XK} (S : FnScope N ps scope) (hr : Room k (A.deeper (PyProof.Rows.envOfC qual scope s.heap.objs.size f cdv))) : CtxOk (fcx P w K mg base N qual scope f cdv A outer s H E) (fun c d _ H' => E c d H') k :=
  ⟨rfl, S.nd, L2N.takes_of rfl rfl rfl rfl, passes_of rfl, hr⟩
/-- a def that hands back a value -/
theorem fok_data {R : Type} [Rp R] {f : A → Res R} {ρ0 : A → List Slot} (F : FunD K x qual params body scope [] kws (He.ga K x) fd) (hgl : mg x = some (.ref (He.ga K x))) (S : FnScope N ps scope) (hb : Binds K fd ps []) (hl : ∀ u, (as u).length = ps.length := by intro _; rfl)
    (h0 : ∀ u, ρ0 u = (as u).map AV.slot ++ List.replicate (N.length - ps.length) .non := by intro _; rfl)
    (d : ∀ cdv A outer s H E, CtxOk (fcx P w K mg base N qual scope (He.ga K x) cdv A outer s H E) (fun c d _ H' => E c d H') k → ∀ u, SR (fcx P w K mg base N qual scope (He.ga K x) cdv A outer s H E) (fun c d _ H' => E c d H') none (ρ0 u) body (retD R) (f u)) :
    FOk P w K mg base x (k + 1) (spOf K as f) := by
  refine ⟨⟨fd, ps, FunD.ok F S (fun vs H Q E h => ?_) (fun cdv A outer s H vs Q E hr h => ?_), hb⟩, F.kp, hgl⟩
  · obtain ⟨S', u, _, r, _⟩ := h
    rw [r.length, hl]
  · obtain ⟨S', u, hd, r, hp⟩ := h
    obtain ⟨t, p, q⟩ := (d cdv A outer s H E (fctx S hr) u).ex
    refine ⟨t, p, q S' [] _ H _ ?_ (hp.imp (fun y hy v σ' H' own' x' _ z => hy H' v x'.nil_same (Rp.mono (hide_mono fun b hb => List.mem_append_left _ hb) z)) fun e he σ' H' own' c d x' _ z => ?_)⟩
    · rw [h0, ← hl u, ← r.length]
      exact rs_start r hd
    · obtain ⟨z1, dx, fs, z2, z3, z4⟩ := z
      refine he H' c d x'.nil_same ⟨z1, dx, fs, z2, hide_mono (fun b hb => List.mem_append_left _ hb) _ _ z3, Paired.imp2 z4 fun a b z => ⟨z.1, ?_⟩⟩
      exact (dp_same (hide_mono fun b hb => List.mem_append_left _ hb) z.2)
end
end
end Py

set_option Elab.async false
set_option linter.all false
set_option maxRecDepth 100000
set_option maxHeartbeats 1000000
/-! Py, part G: defs (further), isinstance, is, == of data. -/
namespace Py
open PySem PySem.Spec L2
open Rp (rp)

section
variable {P : Program} {w : World} {K : PySem.W.Frag} {mg : Str → Option Value} {base : Heap} {x qual : Str} {params : Arguments} {body : List Stmt} {scope : Scope} {kws : List (Str × V)} {fd : FuncData} {N ps : List Str} {k : Nat} {A : Type} {as : A → List AV}
theorem exr_sub {K : PySem.W.Frag} {H H' : Hp} {c : Value} {d : Option Addr} {e : Ex} (s : Same H H') (h : ExR K H c d e) : ExR K H' c d e := by
  obtain ⟨z1, dx, fs, z2, z3, z4⟩ := h
  exact ⟨z1, dx, fs, z2, s _ _ z3, Paired.imp2 z4 fun a b z => ⟨z.1, dp_same s z.2⟩⟩
/-- a def that hands back a new list -/
theorem fok_fr {T : Type} [Rp T] {f : A → Res (List T)} {ρ0 : A → List Slot} (F : FunD K x qual params body scope [] kws (He.ga K x) fd) (hgl : mg x = some (.ref (He.ga K x))) (S : FnScope N ps scope) (hb : Binds K fd ps []) (hl : ∀ u, (as u).length = ps.length := by intro _; rfl)
    (h0 : ∀ u, ρ0 u = (as u).map AV.slot ++ List.replicate (N.length - ps.length) .non := by intro _; rfl)
    (d : ∀ cdv A outer s H E, CtxOk (fcx P w K mg base N qual scope (He.ga K x) cdv A outer s H E) (fun c d _ H' => E c d H') k → ∀ u, SR (fcx P w K mg base N qual scope (He.ga K x) cdv A outer s H E) (fun c d _ H' => E c d H') none (ρ0 u) body (retF T) (f u)) :
    FOk P w K mg base x (k + 1) (spFr K as f) := by
  refine ⟨⟨fd, ps, FunD.ok F S (fun vs H Q E h => ?_) (fun cdv A outer s H vs Q E hr h => ?_), hb⟩, F.kp, hgl⟩
  · obtain ⟨S', u, _, r, _⟩ := h
    rw [r.length, hl]
  · obtain ⟨S', u, hd, r, hp⟩ := h
    obtain ⟨t, p, q⟩ := (d cdv A outer s H E (fctx S hr) u).ex
    refine ⟨t, p, q S' [] _ H _ ?_ (hp.imp (fun y hy v σ' H' own' x' _ z => ?_) fun e he σ' H' own' c d x' _ z => he H' c d x'.nil_same (exr_sub (hide_mono fun b hb => List.mem_append_left _ hb) z))⟩
    · rw [h0, ← hl u, ← r.length]
      exact rs_start r hd
    · obtain ⟨a, vs', rfl, ha, e1, e2⟩ := z
      have na : H a = none := (x'.own a ha).resolve_left (fun z => nomatch z)
      refine hy H' a vs' x'.nil_same na e1 (RpAll.mono (hide_mono fun b hb => ?_) e2)
      rcases List.mem_cons.mp hb with z | z
      · exact z ▸ List.mem_append_right _ ha
      · exact List.mem_append_left _ z
/-- a new list is a value -/
theorem FOk.fr {T : Type} [Rp T] {f : A → Res (List T)} {k : Nat} (F : FOk P w K mg base x k (spFr K as f)) : FOk P w K mg base x k (spOf K as f) := by
  obtain ⟨⟨fd, ps, F1, F2⟩, h2, h3⟩ := F
  refine ⟨⟨fd, ps, F1.imp fun vs H Q E h => ?_, F2⟩, h2, h3⟩
  obtain ⟨S, u, hd, r, hp⟩ := h
  refine ⟨S, u, hd, r, hp.imp (fun y hy H' a vs' s na e1 e2 => hy H' _ s ⟨a, vs', rfl, ?_, RpAll.mono (hide_mono fun z hz => List.mem_cons_of_mem _ hz) e2⟩) fun _ z => z⟩
  rw [hide_out fun z => hd a z na]
  exact e1
/-- a def that hands back None at its end -/
theorem fok_none {S₁ : Type} {f : A → Res S₁} {n : S₁ → List Slot} {ρ0 : A → List Slot} (F : FunD K x qual params body scope [] kws (He.ga K x) fd) (hgl : mg x = some (.ref (He.ga K x))) (S : FnScope N ps scope) (hb : Binds K fd ps []) (hl : ∀ u, (as u).length = ps.length := by intro _; rfl)
    (h0 : ∀ u, ρ0 u = (as u).map AV.slot ++ List.replicate (N.length - ps.length) .non := by intro _; rfl)
    (d : ∀ cdv A outer s H E, CtxOk (fcx P w K mg base N qual scope (He.ga K x) cdv A outer s H E) (fun c d _ H' => E c d H') k → ∀ u, SN (fcx P w K mg base N qual scope (He.ga K x) cdv A outer s H E) (fun c d _ H' => E c d H') none (ρ0 u) body n (f u)) :
    FOk P w K mg base x (k + 1) (spOf K as fun u => (f u).bind fun _ => .ok ()) := by
  refine ⟨⟨fd, ps, FunD.ok F S (fun vs H Q E h => ?_) (fun cdv A outer s H vs Q E hr h => ?_), hb⟩, F.kp, hgl⟩
  · obtain ⟨S', u, _, r, _⟩ := h
    rw [r.length, hl]
  · obtain ⟨S', u, hd, r, hp⟩ := h
    obtain ⟨t, p, q⟩ := (d cdv A outer s H E (fctx S hr) u).ex
    refine ⟨t, p, q S' [] _ H _ ?_ (hp.bind.imp (fun y hy σ' H' own' x' _ => hy H' .non x'.nil_same rfl) fun e he σ' H' own' c d x' _ z => he H' c d x'.nil_same (exr_sub (hide_mono fun b hb => List.mem_append_left _ hb) z))⟩
    rw [h0, ← hl u, ← r.length]
    exact rs_start r hd
theorem FOk.of_eq {R : Type} [Rp R] {f f' : A → Res R} {k : Nat} (F : FOk P w K mg base x k (spOf K as f)) (h : ∀ u, f u = f' u) : FOk P w K mg base x k (spOf K as f') := by
  have e : f = f' := funext h
  subst e
  exact F
theorem FOk.mono {sp : Sp} {j k : Nat} (F : FOk P w K mg base x j sp) (h : j ≤ k) : FOk P w K mg base x k sp := by
  obtain ⟨⟨fd, ps, F1, F2⟩, h2, h3⟩ := F
  exact ⟨⟨fd, ps, F1.mono h, F2⟩, h2, h3⟩
end

/-! ### kinds by name -/
class Ty (T : Type) [Rp T] where
  ty : T → String
  ok : ∀ {K : PySem.W.Frag} {B : List Addr} {H : Hp} {v : V} {x : T}, rp K (hide B H) v x → TyX K H v (.type (ty x))
theorem tyx_tup {K : PySem.W.Frag} {H : Hp} {a : Addr} {vs : List V} (h : SqT K H a vs) : TyX K H (.ref a) (.type "tuple") := by
  rcases h with (h | ⟨o, h⟩) | ⟨o, its, n, h1, h2, _⟩
  · exact .base (.tup h)
  · exact .fTuple h
  · exact .kTuple h1 h2
theorem tyx_lst {K : PySem.W.Frag} {H : Hp} {a : Addr} {vs : List V} (h : SqL K H a vs) : TyX K H (.ref a) (.type "list") := by
  rcases h with (h | ⟨o, h⟩) | ⟨o, its, n, h1, h2, _⟩
  · exact .base (.lst h)
  · exact .base (.frz h)
  · exact .kList h1 h2
instance : Ty Int := ⟨fun _ => "int", fun h => by cases h; exact .base (.int _)⟩
instance : Ty Bool := ⟨fun _ => "bool", fun h => by cases h; exact .base (.bl _)⟩
instance : Ty Str := ⟨fun _ => "str", fun h => by cases h; exact .base (.str _)⟩
instance : Ty Unit := ⟨fun _ => "NoneType", fun h => by cases h; exact .base .non⟩
instance {T : Type} [Rp T] : Ty (List T) := ⟨fun _ => "list", fun h => by
  obtain ⟨a, vs, rfl, e1, _⟩ := h
  exact tyx_lst (.inl (.inl (hide_sub _ _ e1)))⟩
instance {T : Type} [Rp T] : Ty (Tup T) := ⟨fun _ => "tuple", fun h => by
  obtain ⟨a, vs, rfl, e1, _⟩ := h
  exact tyx_tup (SqT.same hide_sub e1)⟩
instance (priority := low) {T : Type} [Places T] : Ty T := ⟨fun _ => "tuple", fun h => by
  obtain ⟨a, vs, rfl, e1, _⟩ := h
  exact tyx_tup (SqT.same hide_sub e1)⟩
instance {T : Type} [Rp T] [Ty T] : Ty (Option T) := ⟨fun | none => "NoneType" | some y => Ty.ty y, fun {K B H v x} h => by
  cases x with
  | none => rw [show v = .non from h]; exact .base .non
  | some y => exact Ty.ok (B := B) h.1⟩
section
variable {S₁ S₂ B R T A U : Type} [Rp T] [Rp A] [Rp U] {X : Cx} {W : WX} {g : Bool} {ρe : Option (List Slot)} {ρ ρ' : List Slot} {e a b : Expr} {pos : Pos} {lv : Nat}
/-- isinstance(x, T) -/
theorem e_isi [Ty T] {m : Res T} {c : String} {n : Str} {p p2 : Pos} {f : T → Bool} (h : EG X W true ρ a m) (hm : X.mg "isinstance" = none) (hm2 : X.mg n = none) (hk : ∀ x : T, kitB (Ty.ty x) c = some (f x) := by intro _; decide +kernel) (hv : bootBuiltins n = some (.type c) := by decide +kernel)
    (hg : Gl X "isinstance" := by rfl) (hg2 : Gl X n := by rfl) (hn : n ≠ "__name__" := by decide) (hdb : (n == ("__debug__" : Str)) = false := by decide)
    (he : starEach [a, .Name n p2] X.env = (false, eval a X.env) :: starEach [.Name n p2] X.env := by rfl) (he2 : starEach [.Name n p2] X.env = (false, eval (.Name n p2) X.env) :: starEach [] X.env := by rfl) (hpl : (backTo pos (starEach [.Name n p2] X.env)).any (·.1) = false := by rfl) :
    EG X W g ρ (.Call (.Name "isinstance" p) [a, .Name n p2] [] pos) (m.bind fun x => .ok (f x)) := by
  obtain ⟨ta, pa, qa⟩ := h.ex
  have pn : PE X (.Name n p2) (tC (.ty c)) := pe_bltn hg2 hm2 hv rfl hn hdb
  refine ⟨_, pe_callB call_isi hg hm (by decide +kernel) (pa_cons pa (pa_cons pn pa_nil he2) he) (by decide) (by decide) he hpl, fun S own σ H Q rs hp => one_run (R' := fun v H2 => rIsi X.K [v, .ty c] H2 Q) qa rs hp fun x v H2 s r1 hq => ?_⟩
  exact ⟨v, .ty c, _, _, f x, rfl, .ty c, Ty.ok r1, kit_ty (hk x), hq H2 _ s rfl⟩
/-- x is True, x is False -/
theorem e_isB {m n : Res Bool} (h : EG X W true ρ a m) (h2 : EG X W true ρ b n) : CJ X W ρ .Is a b (m.bind fun x => n.bind fun y => .ok (decide (x = y))) :=
  e_cmpR (f := fun x y => .ok (decide (x = y))) op_isBl (nomark _) h h2 (fun _ _ H x y v u Q r1 r2 hq => by
    cases r1
    cases r2
    exact ⟨x, y, rfl, rfl, hq⟩)
theorem e_isnotB {m n : Res Bool} (h : EG X W true ρ a m) (h2 : EG X W true ρ b n) : CJ X W ρ .IsNot a b (m.bind fun x => n.bind fun y => .ok (!decide (x = y))) :=
  e_cmpR (f := fun x y => .ok (!decide (x = y))) op_notBl (nomark _) h h2 (fun _ _ H x y v u Q r1 r2 hq => by
    cases r1
    cases r2
    exact ⟨x, y, rfl, rfl, hq⟩)
theorem opt_non {K : PySem.W.Frag} {H : Hp} {v : V} {x : Option T} (h : rp K H v x) : decide (v = .non) = x.isNone := by
  cases x with
  | none => rw [show v = .non from h]; rfl
  | some y => exact decide_eq_false h.2
theorem e_isN {m : Res (Option T)} {j p2} (h : EG X W true ρ a m) : CJ X W ρ .Is a (.Constant .none j p2) (m.bind fun x => .ok x.isNone) := by
  obtain ⟨ta, pa, qa⟩ := h.ex
  refine ⟨_, _, _, op_isN, nomark _, pa, pe_non, fun S own σ H Q R rs hp hR => one_run (R' := fun v H2 => (V.non = .non ∧ R (.bl (decide (v = .non))) H2)) qa rs hp fun x v H2 s r1 hq => ⟨rfl, ?_⟩⟩
  rw [opt_non r1]
  exact hR _ _ (hq H2 s)
theorem e_isnotN {m : Res (Option T)} {j p2} (h : EG X W true ρ a m) : CJ X W ρ .IsNot a (.Constant .none j p2) (m.bind fun x => .ok (!x.isNone)) := by
  obtain ⟨ta, pa, qa⟩ := h.ex
  refine ⟨_, _, _, op_notN, nomark _, pa, pe_non, fun S own σ H Q R rs hp hR => one_run (R' := fun v H2 => (V.non = .non ∧ R (.bl (!decide (v = .non))) H2)) qa rs hp fun x v H2 s r1 hq => ⟨rfl, ?_⟩⟩
  rw [opt_non r1]
  exact hR _ _ (hq H2 s)
end

/-! ### == of data -/
class Dat (T : Type) [Rp T] where
  toD : T → PyData
  ok : T → Bool
  dp : ∀ {K : PySem.W.Frag} {H : Hp} {v : V} {x : T}, rp K H v x → Dp K H v (toD x)
  lay : ∀ x : T, ok x = true → (toD x).canLay0 = true
  dep : Nat
  depth : ∀ x : T, (toD x).depth ≤ dep
  dec : T → T → Bool
  eqv : ∀ x y : T, PyData.eqv (toD x) (toD y) = dec x y
  iff : ∀ x y : T, dec x y = true ↔ x = y
instance : Dat Int where
  toD := .int
  ok _ := true
  dp h := by cases h; exact .int _
  lay x _ := by simp [PyData.canLay0]
  dep := 0
  depth x := by simp [PyData.depth]
  dec x y := decide (x = y)
  eqv x y := by simp [PyData.eqv]; rfl
  iff x y := by simp
instance : Dat Bool where
  toD := .bool
  ok _ := true
  dp h := by cases h; exact .bl _
  lay x _ := by simp [PyData.canLay0]
  dep := 0
  depth x := by simp [PyData.depth]
  dec x y := decide (x = y)
  eqv x y := by simp [PyData.eqv]; rfl
  iff x y := by simp
instance : Dat Str where
  toD := .str
  ok x := PySem.PyData.strOk x
  dp h := by cases h; exact .str _
  lay x h := by simpa [PyData.canLay0] using h
  dep := 0
  depth x := by simp [PyData.depth]
  dec x y := decide (x = y)
  eqv x y := by simp [PyData.eqv]; rfl
  iff x y := by simp
section
variable {T : Type} [Rp T] [Dat T]
theorem dpAll_of {K : PySem.W.Frag} {H : Hp} : ∀ {vs : List V} {xs : List T}, RpAll K H vs xs → DpAll K H vs (xs.map Dat.toD)
  | _, _, .nil => .nil
  | _, _, .cons r t => .cons (Dat.dp r) (dpAll_of t)
theorem layAll_of : ∀ xs : List T, xs.all Dat.ok = true → PyData.canLayAll0 (xs.map Dat.toD) = true
  | [], _ => by simp [PyData.canLayAll0]
  | x :: xs, h => by
    rw [List.all_cons, Bool.and_eq_true] at h
    simp only [List.map_cons, PyData.canLayAll0, Dat.lay x h.1, layAll_of xs h.2, Bool.and_self]
theorem depAll_of : ∀ xs : List T, PyData.depthAll (xs.map Dat.toD) ≤ Dat.dep T
  | [] => by simp [PyData.depthAll]
  | x :: xs => by
    have h1 := depAll_of xs
    have h2 := Dat.depth x
    simp only [List.map_cons, PyData.depthAll]
    omega
def decAll : List T → List T → Bool
  | [], [] => true
  | x :: xs, y :: ys => Dat.dec x y && decAll xs ys
  | _, _ => false
theorem eqvAll_of : ∀ xs ys : List T, PyData.eqvAll (xs.map Dat.toD) (ys.map Dat.toD) = decAll xs ys
  | [], [] => by simp [PyData.eqvAll, decAll]
  | [], _ :: _ => by simp [PyData.eqvAll, decAll]
  | _ :: _, [] => by simp [PyData.eqvAll, decAll]
  | x :: xs, y :: ys => by simp only [List.map_cons, PyData.eqvAll, decAll, Dat.eqv, eqvAll_of xs ys]
theorem decAll_iff : ∀ xs ys : List T, decAll xs ys = true ↔ xs = ys
  | [], [] => by simp [decAll]
  | [], _ :: _ => by simp [decAll]
  | _ :: _, [] => by simp [decAll]
  | x :: xs, y :: ys => by
    rw [decAll, Bool.and_eq_true, Dat.iff, decAll_iff xs ys, List.cons.injEq]
end
instance {T : Type} [Rp T] [Dat T] : Dat (List T) where
  toD xs := .list (xs.map Dat.toD)
  ok xs := xs.all Dat.ok
  dp h := by
    obtain ⟨a, vs, rfl, e1, e2⟩ := h
    exact .lst (.inl (.inl e1)) (dpAll_of e2)
  lay xs h := by simp only [PyData.canLay0]; exact layAll_of xs h
  dep := Dat.dep T + 1
  depth xs := by
    have := depAll_of xs
    simp only [PyData.depth]
    omega
  dec := decAll
  eqv xs ys := by simp only [PyData.eqv]; exact eqvAll_of xs ys
  iff := decAll_iff
instance {T : Type} [Rp T] [Dat T] : Dat (Tup T) where
  toD xs := .tuple (xs.l.map Dat.toD)
  ok xs := xs.l.all Dat.ok
  dp h := by
    obtain ⟨a, vs, rfl, e1, e2⟩ := h
    exact .tup e1 (dpAll_of e2)
  lay xs h := by simp only [PyData.canLay0]; exact layAll_of xs.l h
  dep := Dat.dep T + 1
  depth xs := by
    have := depAll_of xs.l
    simp only [PyData.depth]
    omega
  dec xs ys := decAll xs.l ys.l
  eqv xs ys := by simp only [PyData.eqv]; exact eqvAll_of xs.l ys.l
  iff xs ys := by
    rw [decAll_iff]
    constructor
    · intro h; cases xs; cases ys; simp_all
    · intro h; rw [h]
instance {A B : Type} [Rp A] [Rp B] [Dat A] [Dat B] : Dat (A × B) where
  toD p := .tuple [Dat.toD p.1, Dat.toD p.2]
  ok p := Dat.ok p.1 && Dat.ok p.2
  dp {K H v x} h := by
    obtain ⟨a, vs, rfl, e1, e2⟩ := h
    obtain ⟨x1, x2⟩ := x
    cases e2 with
    | cons r1 e2 =>
      cases e2 with
      | cons r2 e2 =>
        cases e2
        exact .tup e1 (.cons (Dat.dp r1) (.cons (Dat.dp r2) .nil))
  lay p h := by
    rw [Bool.and_eq_true] at h
    simp only [PyData.canLay0, PyData.canLayAll0, Dat.lay p.1 h.1, Dat.lay p.2 h.2, Bool.and_self]
  dep := max (Dat.dep A) (Dat.dep B) + 1
  depth p := by
    have h1 := Dat.depth p.1
    have h2 := Dat.depth p.2
    simp only [PyData.depth, PyData.depthAll]
    omega
  dec p q := Dat.dec p.1 q.1 && Dat.dec p.2 q.2
  eqv p q := by simp only [PyData.eqv, PyData.eqvAll, Dat.eqv, Bool.and_true]
  iff p q := by
    rw [Bool.and_eq_true, Dat.iff, Dat.iff]
    constructor
    · rintro ⟨h1, h2⟩; exact Prod.ext h1 h2
    · intro h; rw [h]; exact ⟨rfl, rfl⟩
/-- data without texts -/
class DatT (T : Type) [Rp T] [Dat T] : Prop where
  ok : ∀ x : T, Dat.ok x = true
instance : DatT Int := ⟨fun _ => rfl⟩
instance : DatT Bool := ⟨fun _ => rfl⟩
instance {T : Type} [Rp T] [Dat T] [DatT T] : DatT (List T) := ⟨fun xs => List.all_eq_true.mpr fun x _ => DatT.ok x⟩
instance {T : Type} [Rp T] [Dat T] [DatT T] : DatT (Tup T) := ⟨fun xs => List.all_eq_true.mpr fun x _ => DatT.ok x⟩
instance {A B : Type} [Rp A] [Rp B] [Dat A] [Dat B] [DatT A] [DatT B] : DatT (A × B) := ⟨fun p => by
  show (Dat.ok p.1 && Dat.ok p.2) = true
  rw [DatT.ok p.1, DatT.ok p.2]; rfl⟩
theorem dat_shaped {T : Type} [Rp T] [Dat T] (hd : Dat.dep T ≤ 64) (x : T) (h : Dat.ok x = true) : SeqAt.shaped (Dat.toD x) = true := by
  show ((Dat.toD x).canLay0 && decide ((Dat.toD x).depth ≤ 64)) = true
  rw [Dat.lay x h, Bool.true_and]
  exact decide_eq_true (Nat.le_trans (Dat.depth x) hd)
section
variable {T : Type} [Rp T] [Dat T] {X : Cx} {W : WX} {g : Bool} {ρ : List Slot} {a b : Expr} {pos : Pos} {lv : Nat}
def eqD (x y : T) : Res Bool := guardR (Dat.ok x && Dat.ok y) (.ok (Dat.dec x y))
theorem e_eqd {m n : Res T} (C : CtxOk X W lv) (h : EG X W true ρ a m) (h2 : EG X W true ρ b n) (hd : Dat.dep T ≤ 64 := by decide) : CJ X W ρ .Eq a b (m.bind fun x => n.bind fun y => eqD x y) :=
  e_cmpR (f := eqD) (op_eqD C.room.units) (nomark _) h h2 (fun _ _ H x y v u Q r1 r2 hq => by
    obtain ⟨h1, hq⟩ := hq.guard
    rw [Bool.and_eq_true] at h1
    refine ⟨_, _, dp_same hide_sub (Dat.dp r1), dp_same hide_sub (Dat.dp r2), dat_shaped hd x h1.1, dat_shaped hd y h1.2, ?_⟩
    rw [Dat.eqv]
    exact hq)
theorem e_ned {m n : Res T} (C : CtxOk X W lv) (h : EG X W true ρ a m) (h2 : EG X W true ρ b n) (hd : Dat.dep T ≤ 64 := by decide) : CJ X W ρ .NotEq a b (m.bind fun x => n.bind fun y => (eqD x y).bind fun k => .ok (!k)) :=
  e_cmpR (f := fun x y => (eqD x y).bind fun k => .ok (!k)) (op_neD C.room.units) (nomark _) h h2 (fun _ _ H x y v u Q r1 r2 hq => by
    obtain ⟨h1, hq⟩ := hq.bind.guard
    rw [Bool.and_eq_true] at h1
    refine ⟨_, _, dp_same hide_sub (Dat.dp r1), dp_same hide_sub (Dat.dp r2), dat_shaped hd x h1.1, dat_shaped hd y h1.2, ?_⟩
    rw [Dat.eqv]
    exact hq)
theorem eqD_T [DatT T] (x y : T) : eqD x y = .ok (Dat.dec x y) := by
  unfold eqD
  rw [DatT.ok x, DatT.ok y]
  rfl
end
end Py

set_option Elab.async false
set_option linter.all false
set_option maxRecDepth 100000
set_option maxHeartbeats 1000000
/-! Py, part H: rules whose parts are values. -/
namespace Py
open PySem PySem.Spec L2
open Rp (rp)
section
variable {X : Cx} {W : WX} {g : Bool} {ρ : List Slot} {T A B C R : Type} [Rp T] [Rp A] [Rp B] [Rp C] [Rp R] {a b e : Expr} {pos p : Pos} {lv : Nat}
theorem LG.of_eq {m m' : Res (List T)} (h : LG X W ρ e m) (z : m = m') : LG X W ρ e m' := z ▸ h
theorem e_ixp {xs : List T} {i : Int} (ha : LG X W ρ a (.ok xs)) (hb : EG X W true ρ b (.ok i)) (hs : PlainIx b := by exact fun _ _ => rfl) : EG X W g ρ (.Subscript a b pos) (idxM xs i) := e_ix ha hb hs
theorem e_ixtp {xs : Tup T} {i : Int} (ha : EG X W g ρ a (.ok xs)) (hb : EG X W true ρ b (.ok i)) (hs : PlainIx b := by exact fun _ _ => rfl) : EG X W g ρ (.Subscript a b pos) (idxM xs.l i) := e_ixt ha hb hs
theorem e_ixscrp {z : Scr} {i : Int} (ha : EG X W true ρ a (.ok z)) (hb : EG X W true ρ b (.ok i)) (hs : PlainIx b := by exact fun _ _ => rfl) : EG X W g ρ (.Subscript a b pos) (idxM z.ns i) := e_ixscr ha hb hs
theorem e_plp {A : Type} [Places A] {j : Nat} {f : A → T} {x : A} {c} {p2 : Pos} (ha : EG X W g ρ a (.ok x)) (hf : ∀ x, (Places.av x)[j]? = some (av (f x)) := by intro _; rfl) : EG X W g ρ (.Subscript a (.Constant (.int (j : Int)) c p2) pos) (.ok (f x)) := e_pl ha hf
theorem o_somep {i : Int} (h : EG X W true ρ e (.ok i)) : OG X W ρ (some e) (.ok (some i)) := o_some h
theorem f_slicep {xs : List T} {l h : Option Int} {lo hi : Option Expr} {p2 : Pos} (ha : LG X W ρ e (.ok xs)) (hl : OG X W ρ lo (.ok l)) (hh : OG X W ρ hi (.ok h)) : FG X W ρ (.Subscript e (.Slice lo hi none p2) pos) (.ok (cut xs l h)) := f_slice ha hl hh
theorem e_lenl {xs : List T} (ha : LG X W ρ a (.ok xs)) (hm : X.mg "len" = none) (hg : Gl X "len" := by rfl)
    (he : starEach [a] X.env = (false, eval a X.env) :: starEach [] X.env := by rfl) (hpl : (backTo pos (starEach [] X.env)).any (·.1) = false := by rfl) : EG X W g ρ (.Call (.Name "len" p) [a] [] pos) (.ok (xs.length : Int)) := by
  obtain ⟨ta, pa, qa⟩ := ha.ex
  refine ⟨_, pe_callB call_len hg hm (by decide +kernel) (pa_cons pa pa_nil he) (by decide) (by decide) he hpl, fun S own σ H Q rs h => qa S own σ H _ rs fun H' a vs s e1 e2 => ?_⟩
  exact ⟨.ref a, xs.length, rfl, .inl ⟨vs, .inl (.inl e1), e2.length.symm⟩, h H' _ s rfl⟩
theorem e_lenp [Len A] {x : A} (ha : EG X W true ρ a (.ok x)) (hm : X.mg "len" = none) (hg : Gl X "len" := by rfl)
    (he : starEach [a] X.env = (false, eval a X.env) :: starEach [] X.env := by rfl) (hpl : (backTo pos (starEach [] X.env)).any (·.1) = false := by rfl) : EG X W g ρ (.Call (.Name "len" p) [a] [] pos) (Len.len x) := e_len ha hm hg he hpl
theorem e_lent {x : Tup T} (ha : EG X W true ρ a (.ok x)) (hm : X.mg "len" = none) (hg : Gl X "len" := by rfl)
    (he : starEach [a] X.env = (false, eval a X.env) :: starEach [] X.env := by rfl) (hpl : (backTo pos (starEach [] X.env)).any (·.1) = false := by rfl) : EG X W g ρ (.Call (.Name "len" p) [a] [] pos) (.ok (x.l.length : Int)) := e_len ha hm hg he hpl
theorem e_lenscr {x : Scr} (ha : EG X W true ρ a (.ok x)) (hm : X.mg "len" = none) (hg : Gl X "len" := by rfl)
    (he : starEach [a] X.env = (false, eval a X.env) :: starEach [] X.env := by rfl) (hpl : (backTo pos (starEach [] X.env)).any (·.1) = false := by rfl) : EG X W g ρ (.Call (.Name "len" p) [a] [] pos) (.ok (x.ns.length : Int)) := e_len ha hm hg he hpl
theorem e_int1p {x : Int} (ha : EG X W true ρ a (.ok x)) (hm : X.mg "int" = none) (hg : Gl X "int" := by rfl)
    (he : starEach [a] X.env = (false, eval a X.env) :: starEach [] X.env := by rfl) (hpl : (backTo pos (starEach [] X.env)).any (·.1) = false := by rfl) : EG X W g ρ (.Call (.Name "int" p) [a] [] pos) (.ok x) := e_int1 ha hm hg he hpl
theorem e_int1m {m : Res Int} (ha : EG X W true ρ a m) (hm : X.mg "int" = none) (hg : Gl X "int" := by rfl)
    (he : starEach [a] X.env = (false, eval a X.env) :: starEach [] X.env := by rfl) (hpl : (backTo pos (starEach [] X.env)).any (·.1) = false := by rfl) : EG X W g ρ (.Call (.Name "int" p) [a] [] pos) m := (e_int1 ha hm hg he hpl).of_eq (by cases m <;> rfl)
theorem e_absp {x : Int} (ha : EG X W true ρ a (.ok x)) (hm : X.mg "abs" = none) (hg : Gl X "abs" := by rfl)
    (he : starEach [a] X.env = (false, eval a X.env) :: starEach [] X.env := by rfl) (hpl : (backTo pos (starEach [] X.env)).any (·.1) = false := by rfl) : EG X W g ρ (.Call (.Name "abs" p) [a] [] pos) (.ok (x.natAbs : Int)) := e_abs ha hm hg he hpl
theorem e_sump {xs : List Int} (hc : X.calm = true) (ha : LG X W ρ a (.ok xs)) (hm : X.mg "sum" = none) (hg : Gl X "sum" := by rfl)
    (he : starEach [a] X.env = (false, eval a X.env) :: starEach [] X.env := by rfl) (hpl : (backTo pos (starEach [] X.env)).any (·.1) = false := by rfl) : EG X W g ρ (.Call (.Name "sum" p) [a] [] pos) (.ok xs.sum) := e_sum hc ha hm hg he hpl
theorem e_max2p {x y : Int} (hc : X.calm = true) (ha : EG X W true ρ a (.ok x)) (hb : EG X W true ρ b (.ok y)) (hm : X.mg "max" = none) (hg : Gl X "max" := by rfl)
    (he : starEach [a, b] X.env = (false, eval a X.env) :: starEach [b] X.env := by rfl) (he2 : starEach [b] X.env = (false, eval b X.env) :: starEach [] X.env := by rfl) (hpl : (backTo pos (starEach [b] X.env)).any (·.1) = false := by rfl) :
    EG X W g ρ (.Call (.Name "max" p) [a, b] [] pos) (.ok (if y > x then y else x)) := e_max2 hc ha hb hm hg he he2 hpl
theorem e_min2p {x y : Int} (hc : X.calm = true) (ha : EG X W true ρ a (.ok x)) (hb : EG X W true ρ b (.ok y)) (hm : X.mg "min" = none) (hg : Gl X "min" := by rfl)
    (he : starEach [a, b] X.env = (false, eval a X.env) :: starEach [b] X.env := by rfl) (he2 : starEach [b] X.env = (false, eval b X.env) :: starEach [] X.env := by rfl) (hpl : (backTo pos (starEach [b] X.env)).any (·.1) = false := by rfl) :
    EG X W g ρ (.Call (.Name "min" p) [a, b] [] pos) (.ok (if y < x then y else x)) := e_min2 hc ha hb hm hg he he2 hpl
theorem e_gcdp {x : Str} {u v : Int} (ha : EG X W true ρ a (.ok u)) (hb : EG X W true ρ b (.ok v)) (hm : X.mg x = some (.builtin "math.gcd")) (hg : Gl X x := by rfl) (hdb : (x == ("__debug__" : Str)) = false := by decide)
    (he : starEach [a, b] X.env = (false, eval a X.env) :: starEach [b] X.env := by rfl) (he2 : starEach [b] X.env = (false, eval b X.env) :: starEach [] X.env := by rfl) (hpl : (backTo pos (starEach [b] X.env)).any (·.1) = false := by rfl) :
    EG X W g ρ (.Call (.Name x p) [a, b] [] pos) (.ok ((Nat.gcd u.natAbs v.natAbs : Nat) : Int)) := e_gcd ha hb hm hg hdb he he2 hpl
theorem f_listofp {xs : List T} (ha : LG X W ρ a (.ok xs)) (hm : X.mg "list" = none) (hg : Gl X "list" := by rfl)
    (he : starEach [a] X.env = (false, eval a X.env) :: starEach [] X.env := by rfl) (hpl : (backTo pos (starEach [] X.env)).any (·.1) = false := by rfl) : FG X W ρ (.Call (.Name "list" p) [a] [] pos) (.ok xs) := f_listof ha hm hg he hpl
theorem f_listoftp {xs : Tup T} (ha : EG X W true ρ a (.ok xs)) (hm : X.mg "list" = none) (hg : Gl X "list" := by rfl)
    (he : starEach [a] X.env = (false, eval a X.env) :: starEach [] X.env := by rfl) (hpl : (backTo pos (starEach [] X.env)).any (·.1) = false := by rfl) : FG X W ρ (.Call (.Name "list" p) [a] [] pos) (.ok xs.l) := f_listoft ha hm hg he hpl
theorem e_tupofp {xs : List T} (ha : LG X W ρ a (.ok xs)) (hm : X.mg "tuple" = none) (hg : Gl X "tuple" := by rfl)
    (he : starEach [a] X.env = (false, eval a X.env) :: starEach [] X.env := by rfl) (hpl : (backTo pos (starEach [] X.env)).any (·.1) = false := by rfl) : EG X W g ρ (.Call (.Name "tuple" p) [a] [] pos) (.ok (⟨xs⟩ : Tup T)) := e_tupof ha hm hg he hpl
def catM {α : Type} (xs ys : List α) : Res (List α) := guardR (decide (xs.length + ys.length ≤ sizeLine)) (.ok (xs ++ ys))
theorem f_catp {xs ys : List T} (ha : LG X W ρ a (.ok xs)) (hb : LG X W ρ b (.ok ys)) : FG X W ρ (.BinOp a .Add b pos) (catM xs ys) := f_cat ha hb
theorem f_catm {ma mb : Res (List T)} (ha : LG X W ρ a ma) (hb : LG X W ρ b mb) : FG X W ρ (.BinOp a .Add b pos) (ma.bind fun xs => mb.bind fun ys => catM xs ys) := f_cat ha hb
theorem f_repp {xs : List T} {k : Int} (ha : LG X W ρ a (.ok xs)) (hb : EG X W true ρ b (.ok k)) : FG X W ρ (.BinOp a .Mult b pos) (repM xs k) := f_rep ha hb
theorem e_isip [Ty T] {x : T} {c : String} {n : Str} {p2 : Pos} {f : T → Bool} (h : EG X W true ρ a (.ok x)) (hm : X.mg "isinstance" = none) (hm2 : X.mg n = none) (hk : ∀ x : T, kitB (Ty.ty x) c = some (f x) := by intro _; decide +kernel) (hv : bootBuiltins n = some (.type c) := by decide +kernel)
    (hg : Gl X "isinstance" := by rfl) (hg2 : Gl X n := by rfl) (hn : n ≠ "__name__" := by decide) (hdb : (n == ("__debug__" : Str)) = false := by decide)
    (he : starEach [a, .Name n p2] X.env = (false, eval a X.env) :: starEach [.Name n p2] X.env := by rfl) (he2 : starEach [.Name n p2] X.env = (false, eval (.Name n p2) X.env) :: starEach [] X.env := by rfl) (hpl : (backTo pos (starEach [.Name n p2] X.env)).any (·.1) = false := by rfl) :
    EG X W g ρ (.Call (.Name "isinstance" p) [a, .Name n p2] [] pos) (.ok (f x)) := e_isi h hm hm2 hk hv hg hg2 hn hdb he he2 hpl
theorem e_isBp {x y : Bool} (h : EG X W true ρ a (.ok x)) (h2 : EG X W true ρ b (.ok y)) : CJ X W ρ .Is a b (.ok (decide (x = y))) := e_isB h h2
theorem e_isnotBp {x y : Bool} (h : EG X W true ρ a (.ok x)) (h2 : EG X W true ρ b (.ok y)) : CJ X W ρ .IsNot a b (.ok (!decide (x = y))) := e_isnotB h h2
theorem e_isNp {x : Option T} {j p2} (h : EG X W true ρ a (.ok x)) : CJ X W ρ .Is a (.Constant .none j p2) (.ok x.isNone) := e_isN h
theorem e_isnotNp {x : Option T} {j p2} (h : EG X W true ρ a (.ok x)) : CJ X W ρ .IsNot a (.Constant .none j p2) (.ok (!x.isNone)) := e_isnotN h
theorem e_eqdp [Dat T] {x y : T} (C : CtxOk X W lv) (h : EG X W true ρ a (.ok x)) (h2 : EG X W true ρ b (.ok y)) (hd : Dat.dep T ≤ 64 := by decide) : CJ X W ρ .Eq a b (eqD x y) := e_eqd C h h2 hd
theorem e_eqdT [Dat T] [DatT T] {x y : T} (C : CtxOk X W lv) (h : EG X W true ρ a (.ok x)) (h2 : EG X W true ρ b (.ok y)) (hd : Dat.dep T ≤ 64 := by decide) : CJ X W ρ .Eq a b (.ok (Dat.dec x y)) := (e_eqd C h h2 hd).of_eq (eqD_T x y)
theorem e_nedT [Dat T] [DatT T] {x y : T} (C : CtxOk X W lv) (h : EG X W true ρ a (.ok x)) (h2 : EG X W true ρ b (.ok y)) (hd : Dat.dep T ≤ 64 := by decide) : CJ X W ρ .NotEq a b (.ok (!Dat.dec x y)) := (e_ned C h h2 hd).of_eq (show (eqD x y).bind _ = _ by rw [eqD_T]; rfl)
theorem e_eqdm [Dat T] [DatT T] {m n : Res T} (C : CtxOk X W lv) (h : EG X W true ρ a m) (h2 : EG X W true ρ b n) (hd : Dat.dep T ≤ 64 := by decide) : CJ X W ρ .Eq a b (m.bind fun x => n.bind fun y => .ok (Dat.dec x y)) := (e_eqd C h h2 hd).of_eq (by
  congr 1; funext x; congr 1; funext y; exact eqD_T x y)
theorem e_nedm [Dat T] [DatT T] {m n : Res T} (C : CtxOk X W lv) (h : EG X W true ρ a m) (h2 : EG X W true ρ b n) (hd : Dat.dep T ≤ 64 := by decide) : CJ X W ρ .NotEq a b (m.bind fun x => n.bind fun y => .ok (!Dat.dec x y)) := (e_ned C h h2 hd).of_eq (by
  congr 1; funext x; congr 1; funext y; rw [eqD_T]; rfl)
end
section
variable {X : Cx} {W : WX} {g : Bool} {ρ : List Slot} {T A : Type} [Rp T] [Rp A] {a e tg : Expr} {pos p : Pos} {lv : Nat}
theorem i_range1p {j : Int} (h : EG X W true ρ a (.ok j)) (hm : X.mg "range" = none) (hg : Gl X "range" := by rfl) (hs : starEach [a] X.env = [(false, eval a X.env)] := by rfl) (he : starEach (a :: []) X.env = (false, eval a X.env) :: starEach [] X.env := by rfl) :
    IJ X W ρ tg (.Call (.Name "range" p) [a] [] pos) (guardR (inRange j) (.ok (rng 0 j))) := i_range1 h hm hg hs he
theorem i_range2p {c : Expr} {i j : Int} (h : EG X W true ρ a (.ok i)) (h2 : EG X W true ρ c (.ok j)) (hm : X.mg "range" = none) (hg : Gl X "range" := by rfl) (hs : starEach [a, c] X.env = [(false, eval a X.env), (false, eval c X.env)] := by rfl) (hs2 : starEach [c] X.env = [(false, eval c X.env)] := by rfl)
    (he : starEach (a :: [c]) X.env = (false, eval a X.env) :: starEach [c] X.env := by rfl) (he2 : starEach (c :: []) X.env = (false, eval c X.env) :: starEach [] X.env := by rfl) :
    IJ X W ρ tg (.Call (.Name "range" p) [a, c] [] pos) (guardR (inRange i && inRange j) (.ok (rng i j))) := i_range2 h h2 hm hg hs hs2 he he2
theorem i_enump {xs : List T} {elts : List Expr} {kk : Nat} {tpos : Pos} (h : EG X W true ρ a (.ok xs)) (hm : X.mg "enumerate" = none) (hg : Gl X "enumerate" := by rfl) (hs : starEach [a] X.env = [(false, eval a X.env)] := by rfl) (he : starEach (a :: []) X.env = (false, eval a X.env) :: starEach [] X.env := by rfl) :
    IJ X W ρ (.Tuple elts kk tpos) (.Call (.Name "enumerate" p) [a] [] pos) (.ok (enumL xs)) := i_enum h hm hg hs he
theorem i_zipp {c : Expr} {xs : List T} {ys : List A} {elts : List Expr} {kk : Nat} {tpos : Pos} (h : EG X W true ρ a (.ok xs)) (h2 : EG X W true ρ c (.ok ys)) (hm : X.mg "zip" = none) (hg : Gl X "zip" := by rfl)
    (he : starEach (a :: [c]) X.env = (false, eval a X.env) :: starEach [c] X.env := by rfl) (he2 : starEach (c :: []) X.env = (false, eval c X.env) :: starEach [] X.env := by rfl) (hpl : (backTo pos (starEach [c] X.env)).any (·.1) = false := by rfl) :
    IJ X W ρ (.Tuple elts kk tpos) (.Call (.Name "zip" p) [a, c] [] pos) (.ok (xs.zip ys)) := i_zip h h2 hm hg he he2 hpl
theorem i_tupp {xs : Tup T} (h : EG X W true ρ e (.ok xs)) : IJ X W ρ tg e (.ok xs.l) := i_tup h
theorem i_strp {z : Str} (h : EG X W true ρ e (.ok z)) : IJ X W ρ tg e (.ok (signs z)) := i_str h
end
end Py

set_option Elab.async false
set_option linter.all false
set_option maxRecDepth 100000
set_option maxHeartbeats 1000000
/-! Py, part I: shapes that the generator prints. -/
namespace Py
open PySem PySem.Spec L2
open Rp (rp)
section
variable {S₁ S₂ B R T A : Type} [Rp T] [Rp A] {X : Cx} {W : WX} {g : Bool} {ρe : Option (List Slot)} {ρ ρ' : List Slot} {st : Stmt} {rest sts sa sb : List Stmt} {n n1 : S₁ → List Slot} {n2 : S₂ → List Slot} {b : B → List Slot} {Z : Rt R} {e a c : Expr} {pos : Pos} {lv : Nat}
theorem b_at {m : Res S₁} (ρ' : List Slot) (h : SN X W ρe ρ' sts n m) (e : ρ = ρ' := by rfl) : SN X W ρe ρ sts n m := e ▸ h
theorem r_at {m : Res R} (ρ' : List Slot) (h : SR X W ρe ρ' sts Z m) (e : ρ = ρ' := by rfl) : SR X W ρe ρ sts Z m := e ▸ h
theorem c_at {m : Res (Ctl S₁ B R)} (ρ' : List Slot) (h : SC X W ρe ρ' sts n b Z m) (e : ρ = ρ' := by rfl) : SC X W ρe ρ sts n b Z m := e ▸ h
theorem e_at {m : Res T} (ρ' : List Slot) (h : EG X W g ρ' e m) (z : ρ = ρ' := by rfl) : EG X W g ρ e m := z ▸ h
theorem t_at {m : Res Bool} (ρ' : List Slot) (h : TJ X W ρ' e m) (z : ρ = ρ' := by rfl) : TJ X W ρ e m := z ▸ h
theorem n_ifp {p : Bool} {ma mb : Res S₁} (hc : TJ X W ρ c (.ok p)) (h1 : SN X W ρe ρ sa n ma) (h2 : SN X W ρe ρ sb n mb) (w : WkO ρ ρe := by first | exact True.intro | (repeat (first | exact Wk.nil | refine Wk.s ?_ | refine Wk.n ?_))) : N1 X W ρe ρ (.If c sa sb pos) n (if p then ma else mb) := n_if hc h1 h2 w
theorem c_ifp {p : Bool} {ma mb : Res (Ctl S₁ B R)} (hc : TJ X W ρ c (.ok p)) (h1 : SC X W ρe ρ sa n b Z ma) (h2 : SC X W ρe ρ sb n b Z mb) (w : WkO ρ ρe := by first | exact True.intro | (repeat (first | exact Wk.nil | refine Wk.s ?_ | refine Wk.n ?_))) : C1 X W ρe ρ (.If c sa sb pos) n b Z (if p then ma else mb) := c_if hc h1 h2 w
theorem r_ifp {p : Bool} {ma mb : Res R} (hc : TJ X W ρ c (.ok p)) (h1 : SR X W ρe ρ sa Z ma) (h2 : SR X W ρe ρ rest Z mb) (w : WkO ρ ρe := by first | exact True.intro | (repeat (first | exact Wk.nil | refine Wk.s ?_ | refine Wk.n ?_))) : SR X W ρe ρ (.If c sa [] pos :: rest) Z (if p then ma else mb) := r_if hc h1 h2 w
theorem r_if2p {p : Bool} {ma mb : Res R} (hc : TJ X W ρ c (.ok p)) (h1 : SR X W ρe ρ sa Z ma) (h2 : SR X W ρe ρ sb Z mb) (w : WkO ρ ρe := by first | exact True.intro | (repeat (first | exact Wk.nil | refine Wk.s ?_ | refine Wk.n ?_))) : SR X W ρe ρ (.If c sa sb pos :: rest) Z (if p then ma else mb) := r_if2 hc h1 h2 w
def liftC {S B R : Type} (m : Res (Ctl Empty B R)) : Res (Ctl S B R) := m.bind fun
  | .nx z => nomatch z
  | .rt r => .ok (.rt r)
  | .bk x => .ok (.bk x)
  | .ct x => .ok (.ct x)
def eb : Empty → List Slot := fun z => nomatch z
/-- if that jumps or returns on its yes, then the rest -/
theorem c_if1 {mc : Res Bool} {ma : Res (Ctl Empty B R)} {mb : Res (Ctl S₁ B R)} (hc : TJ X W ρ c mc) (h1 : SC X W ρe ρ sa eb b Z ma) (h2 : SC X W ρe ρ rest n b Z mb) (w : WkO ρ ρe := by first | exact True.intro | (repeat (first | exact Wk.nil | refine Wk.s ?_ | refine Wk.n ?_))) : SC X W ρe ρ (.If c sa [] pos :: rest) n b Z (mc.bind fun k => if k then liftC ma else mb) := by
  obtain ⟨tc, pc, qc⟩ := hc.ex
  obtain ⟨ta, pa, qa⟩ := h1.ex
  obtain ⟨tb, pb, qb⟩ := h2.ex
  refine ⟨_, pss_cons (ps_if pc pa pss_nil) pb, fun S own σ H D rs h => if_run (c := c) qc rs w h fun k H' s hk => ?_⟩
  cases k with
  | true =>
    rw [if_pos rfl]
    refine qa S own σ H' _ (rs.mono s) ((show Post (ma.bind _) _ _ from hk).bind.imp (fun z hz => ?_) fun _ z => z.mono (Ext.of_same s))
    cases z with
    | nx z => exact nomatch z
    | rt r => exact RtP.mono hz (Ext.of_same s)
    | bk x => exact NxP.mono hz (Ext.of_same s)
    | ct x => exact NxP.mono hz (Ext.of_same s)
  | false => rw [if_neg Bool.false_ne_true]; exact qb S own σ H' D (rs.mono s) (Post.imp (show Post mb _ _ from hk) (fun _ z => CtlP.mono z (Ext.of_same s)) fun _ z => z.mono (Ext.of_same s))
theorem c_if1p {p : Bool} {ma : Res (Ctl Empty B R)} {mb : Res (Ctl S₁ B R)} (hc : TJ X W ρ c (.ok p)) (h1 : SC X W ρe ρ sa eb b Z ma) (h2 : SC X W ρe ρ rest n b Z mb) (w : WkO ρ ρe := by first | exact True.intro | (repeat (first | exact Wk.nil | refine Wk.s ?_ | refine Wk.n ?_))) : SC X W ρe ρ (.If c sa [] pos :: rest) n b Z (if p then liftC ma else mb) := c_if1 hc h1 h2 w
/-- a return within a loop -/
theorem SR.cp {r : R} (h : SR X W ρe ρ sts Z (.ok r)) : SC X W ρe ρ sts n b Z (.ok (.rt r)) := SR.c h
theorem SN.cp {r : S₁} (h : SN X W ρe ρ sts n (.ok r)) : SC X W ρe ρ sts n b Z (.ok (.nx r)) := SN.c h
/-- a value that is known is put in at once -/
theorem r_consp {v : S₂} {m2 : Res R} (h1 : N1 X W ρe ρ st n2 (.ok v)) (h2 : SR X W ρe (n2 v) rest Z m2) : SR X W ρe ρ (st :: rest) Z m2 := by
  obtain ⟨t1, p1, q1⟩ := h1.ex
  obtain ⟨t2, p2, q2⟩ := h2.ex
  exact ⟨_, pss_cons p1 p2, fun S own σ H D rs h => q1 S own σ H _ rs fun σ1 H1 own1 x1 r1 => q2 S own1 σ1 H1 D r1 (Post.imp h (fun _ z => z.mono x1) fun _ z => z.mono x1)⟩
theorem b_consp {v : S₂} {m2 : Res S₁} (h1 : N1 X W ρe ρ st n2 (.ok v)) (h2 : SN X W ρe (n2 v) rest n m2) : SN X W ρe ρ (st :: rest) n m2 := by
  obtain ⟨t1, p1, q1⟩ := h1.ex
  obtain ⟨t2, p2, q2⟩ := h2.ex
  exact ⟨_, pss_cons p1 p2, fun S own σ H D rs h => q1 S own σ H _ rs fun σ1 H1 own1 x1 r1 => q2 S own1 σ1 H1 D r1 (Post.imp h (fun _ z => z.mono x1) fun _ z => z.mono x1)⟩
theorem c_consp {v : S₂} {m2 : Res (Ctl S₁ B R)} (h1 : N1 X W ρe ρ st n2 (.ok v)) (h2 : SC X W ρe (n2 v) rest n b Z m2) : SC X W ρe ρ (st :: rest) n b Z m2 := by
  obtain ⟨t1, p1, q1⟩ := h1.ex
  obtain ⟨t2, p2, q2⟩ := h2.ex
  exact ⟨_, pss_cons p1 p2, fun S own σ H D rs h => q1 S own σ H _ rs fun σ1 H1 own1 x1 r1 => q2 S own1 σ1 H1 D r1 (Post.imp h (fun _ z => CtlP.mono z x1) fun _ z => z.mono x1)⟩
/-! ### truth of lists -/
theorem t_list {m : Res (List T)} (h : LG X W ρ e m) (he : ∀ whole, isTrue e X.env whole = (do let v ← whole; standAt e.pos; holding [v] (truthy v)) := by intro _; rfl) : TJ X W ρ e (m.bind fun xs => .ok (!xs.isEmpty)) := by
  obtain ⟨t, p, q⟩ := h.ex
  refine ⟨_, pt_truth p he, fun S own σ H Q rs hp => q S own σ H _ rs (hp.bind.imp (fun xs hx H' a vs s e1 e2 => ⟨!xs.isEmpty, .inl ⟨vs, .inl (.inl e1), ?_⟩, hx H' s⟩) fun _ z => z)⟩
  have := e2.length
  cases vs <;> cases xs <;> simp at this <;> rfl
theorem t_listp {xs : List T} (h : LG X W ρ e (.ok xs)) (he : ∀ whole, isTrue e X.env whole = (do let v ← whole; standAt e.pos; holding [v] (truthy v)) := by intro _; rfl) : TJ X W ρ e (.ok (!xs.isEmpty)) := t_list h he
theorem t_tup {m : Res (Tup T)} (h : EG X W true ρ e m) (he : ∀ whole, isTrue e X.env whole = (do let v ← whole; standAt e.pos; holding [v] (truthy v)) := by intro _; rfl) : TJ X W ρ e (m.bind fun xs => .ok (!xs.l.isEmpty)) := by
  obtain ⟨t, p, q⟩ := h.ex
  refine ⟨_, pt_truth p he, fun S own σ H Q rs hp => q S own σ H _ rs (hp.bind.imp (fun xs hx H' v s r => ?_) fun _ z => z)⟩
  obtain ⟨a, vs, rfl, e1, e2⟩ := r
  refine ⟨!xs.l.isEmpty, .inr (.inl ⟨vs, SqT.same hide_sub e1, ?_⟩), hx H' s⟩
  have := e2.length
  cases vs <;> cases hh : xs.l <;> rw [hh] at this <;> simp at this <;> rfl
theorem e_eqdB [Dat T] [DatT T] {m n : Res T} (C : CtxOk X W lv) (h : EG X W false ρ a m) (h2 : EG X W false ρ e n) (hd : Dat.dep T ≤ 64 := by decide) : CJ X W ρ .Eq a e (m.bind fun x => n.bind fun y => .ok (Dat.dec x y)) := by
  refine (e_cmpR (f := eqD) (op_eqD C.room.units) (nomark _) h h2 (fun _ _ H x y v u Q r1 r2 hq => ?_)).of_eq (by congr 1; funext x; congr 1; funext y; exact eqD_T x y)
  rw [eqD_T] at hq
  refine ⟨_, _, dp_same hide_sub (Dat.dp r1), dp_same hide_sub (Dat.dp r2), dat_shaped hd x (DatT.ok x), dat_shaped hd y (DatT.ok y), ?_⟩
  rw [Dat.eqv]
  exact hq
theorem e_nedB [Dat T] [DatT T] {m n : Res T} (C : CtxOk X W lv) (h : EG X W false ρ a m) (h2 : EG X W false ρ e n) (hd : Dat.dep T ≤ 64 := by decide) : CJ X W ρ .NotEq a e (m.bind fun x => n.bind fun y => .ok (!Dat.dec x y)) := by
  refine (e_cmpR (f := fun x y => (eqD x y).bind fun k => .ok (!k)) (op_neD C.room.units) (nomark _) h h2 (fun _ _ H x y v u Q r1 r2 hq => ?_)).of_eq (by congr 1; funext x; congr 1; funext y; rw [eqD_T]; rfl)
  rw [eqD_T] at hq
  refine ⟨_, _, dp_same hide_sub (Dat.dp r1), dp_same hide_sub (Dat.dp r2), dat_shaped hd x (DatT.ok x), dat_shaped hd y (DatT.ok y), ?_⟩
  rw [Dat.eqv]
  exact hq
/-! ### the law's end -/
theorem law_sp {K : PySem.W.Frag} {f : Scr × Unit → Res Bool} {H : Hp} {a : Addr} {ns : List Int} (h : f (⟨ns⟩, ()) = .ok true) (hS : SqL K H a (ns.map V.int)) : spOf K (asC asN) f [.ref a] H (fun v _ => v = .bl true) fun _ _ _ => False := by
  refine ⟨[], (⟨ns⟩, ()), (fun _ z => nomatch z), .cons ⟨a, rfl, ?_⟩ .nil, ?_⟩
  · rw [hide_nil]; exact hS
  · rw [h]
    exact fun H' v s r => r
end
end Py

set_option Elab.async false
set_option linter.all false
set_option maxRecDepth 100000
set_option maxHeartbeats 1000000
/-! Py, part J: data of any kind; a def that calls itself. -/
namespace Py
open PySem PySem.Spec L2
open Rp (rp)

/-- a value of any kind, as data -/
structure PD where
  d : PyData
instance : Rp PD where
  rp K H v x := Dp K H v x.d
  mono s h := dp_same s h
def tyD : PyData → String
  | .none => "NoneType" | .bool _ => "bool" | .int _ => "int" | .str _ => "str" | .list _ => "list" | .tuple _ => "tuple" | .dict _ => "dict"
instance : Ty PD := ⟨fun x => tyD x.d, fun {K B H v x} h => by
  obtain ⟨d⟩ := x
  cases h with
  | non => exact .base .non
  | bl b => exact .base (.bl _)
  | int i => exact .base (.int _)
  | str x => exact .base (.str _)
  | lst h r => exact tyx_lst (hide_sub.seq h)
  | tup h r => exact tyx_tup (SqT.same hide_sub h)⟩
def isTup : PD → Bool | ⟨.tuple _⟩ => true | _ => false
def isLst : PD → Bool | ⟨.list _⟩ => true | _ => false
def isBl : PD → Bool | ⟨.bool _⟩ => true | _ => false
def isInt : PD → Bool | ⟨.int _⟩ => true | ⟨.bool _⟩ => true | _ => false
def isStr : PD → Bool | ⟨.str _⟩ => true | _ => false
theorem isTup_ok (x : PD) : kitB (Ty.ty x) "tuple" = some (isTup x) := by
  obtain ⟨d⟩ := x
  cases d <;> first | exact (by decide +kernel : kitB "NoneType" "tuple" = some false) | exact (by decide +kernel : kitB "bool" "tuple" = some false) | exact (by decide +kernel : kitB "int" "tuple" = some false) | exact (by decide +kernel : kitB "str" "tuple" = some false) | exact (by decide +kernel : kitB "list" "tuple" = some false) | exact (by decide +kernel : kitB "tuple" "tuple" = some true) | exact (by decide +kernel : kitB "dict" "tuple" = some false)
theorem isLst_ok (x : PD) : kitB (Ty.ty x) "list" = some (isLst x) := by
  obtain ⟨d⟩ := x
  cases d <;> first | exact (by decide +kernel : kitB "NoneType" "list" = some false) | exact (by decide +kernel : kitB "bool" "list" = some false) | exact (by decide +kernel : kitB "int" "list" = some false) | exact (by decide +kernel : kitB "str" "list" = some false) | exact (by decide +kernel : kitB "list" "list" = some true) | exact (by decide +kernel : kitB "tuple" "list" = some false) | exact (by decide +kernel : kitB "dict" "list" = some false)
theorem isBl_ok (x : PD) : kitB (Ty.ty x) "bool" = some (isBl x) := by
  obtain ⟨d⟩ := x
  cases d <;> first | exact (by decide +kernel : kitB "NoneType" "bool" = some false) | exact (by decide +kernel : kitB "bool" "bool" = some true) | exact (by decide +kernel : kitB "int" "bool" = some false) | exact (by decide +kernel : kitB "str" "bool" = some false) | exact (by decide +kernel : kitB "list" "bool" = some false) | exact (by decide +kernel : kitB "tuple" "bool" = some false) | exact (by decide +kernel : kitB "dict" "bool" = some false)
theorem isInt_ok (x : PD) : kitB (Ty.ty x) "int" = some (isInt x) := by
  obtain ⟨d⟩ := x
  cases d <;> first | exact (by decide +kernel : kitB "NoneType" "int" = some false) | exact (by decide +kernel : kitB "bool" "int" = some true) | exact (by decide +kernel : kitB "int" "int" = some true) | exact (by decide +kernel : kitB "str" "int" = some false) | exact (by decide +kernel : kitB "list" "int" = some false) | exact (by decide +kernel : kitB "tuple" "int" = some false) | exact (by decide +kernel : kitB "dict" "int" = some false)
theorem isStr_ok (x : PD) : kitB (Ty.ty x) "str" = some (isStr x) := by
  obtain ⟨d⟩ := x
  cases d <;> first | exact (by decide +kernel : kitB "NoneType" "str" = some false) | exact (by decide +kernel : kitB "bool" "str" = some false) | exact (by decide +kernel : kitB "int" "str" = some false) | exact (by decide +kernel : kitB "str" "str" = some true) | exact (by decide +kernel : kitB "list" "str" = some false) | exact (by decide +kernel : kitB "tuple" "str" = some false) | exact (by decide +kernel : kitB "dict" "str" = some false)
theorem dpAll_length {K : PySem.W.Frag} {H : Hp} : ∀ {vs : List V} {ds : List PyData}, DpAll K H vs ds → vs.length = ds.length
  | _, _, .nil => rfl
  | _, _, .cons _ r => by rw [List.length_cons, List.length_cons, dpAll_length r]
theorem dpAll_get {K : PySem.W.Frag} {H : Hp} : ∀ {vs : List V} {ds : List PyData} {i : Nat} {d : PyData}, DpAll K H vs ds → ds[i]? = some d → ∃ v, vs[i]? = some v ∧ Dp K H v d
  | _, _, 0, _, .cons r _, e => by cases e; exact ⟨_, rfl, r⟩
  | _, _, i + 1, _, .cons _ t, e => dpAll_get (i := i) t e
  | _, _, 0, _, .nil, e => by cases e
  | _, _, i + 1, _, .nil, e => by cases e
def lenD : PD → Res Int
  | ⟨.list xs⟩ => .ok (xs.length : Int)
  | ⟨.tuple xs⟩ => .ok (xs.length : Int)
  | _ => .bad
instance : Len PD where
  len := lenD
  ok {K B H v x Q} r h := by
    obtain ⟨d⟩ := x
    cases r with
    | lst r1 r2 => exact ⟨_, .inl ⟨_, hide_sub.seq r1, rfl⟩, by rw [dpAll_length r2]; exact h⟩
    | tup r1 r2 => exact ⟨_, .inr ⟨_, SqT.same hide_sub r1, rfl⟩, by rw [dpAll_length r2]; exact h⟩
    | _ => exact h.elim
def idxD (x : PD) (i : Int) : Res PD := match x with
  | ⟨.list xs⟩ => (idxM xs i).bind fun d => .ok ⟨d⟩
  | ⟨.tuple xs⟩ => (idxM xs i).bind fun d => .ok ⟨d⟩
  | _ => .bad
def asB (x : PD) : Res Bool := match x with | ⟨.bool b⟩ => .ok b | _ => .bad
def asI (x : PD) : Res Int := match x with | ⟨.int b⟩ => .ok b | _ => .bad
def asS (x : PD) : Res Str := match x with | ⟨.str b⟩ => .ok b | _ => .bad
def isNon : PD → Bool | ⟨.none⟩ => true | _ => false
def eqvD (x y : PD) : Res Bool := guardR (SeqAt.shaped x.d && SeqAt.shaped y.d) (.ok (PyData.eqv x.d y.d))
section
variable {X : Cx} {W : WX} {g : Bool} {ρ : List Slot} {T A : Type} [Rp T] [Rp A] {a b e : Expr} {pos : Pos} {lv : Nat}
theorem e_toD [Dat T] {m : Res T} (h : EG X W g ρ e m) : EG X W g ρ e (m.bind fun x => .ok (PD.mk (Dat.toD x))) := by
  obtain ⟨t, p, q⟩ := h.ex
  exact ⟨t, p, fun S own σ H Q rs hp => q S own σ H Q rs (hp.bind.imp (fun x hx H' v s r => hx H' v s (Dat.dp r)) fun _ z => z)⟩
theorem e_toDp [Dat T] {x : T} (h : EG X W g ρ e (.ok x)) : EG X W g ρ e (.ok (PD.mk (Dat.toD x))) := e_toD h
theorem idx_get {α β : Type} {xs : List α} {i : Int} {f : α → Res β} {Q : β → Prop} {E : Ex → Prop} (h : Post ((idxM xs i).bind f) Q E) : ∃ (j : Nat) (y : α), ixN xs.length i = some j ∧ xs[j]? = some y ∧ Post (f y) Q E := by
  unfold idxM atI at h
  cases ej : ixN xs.length i with
  | none => rw [ej] at h; exact h.elim
  | some j =>
    rw [ej] at h
    cases ey : xs[j]? with
    | none => rw [Option.bind_some, ey] at h; exact h.elim
    | some y => rw [Option.bind_some, ey] at h; exact ⟨j, y, rfl, ey, h⟩
theorem e_ixD {m : Res PD} {n : Res Int} (h : EG X W g ρ a m) (h2 : EG X W true ρ b n) (hs : PlainIx b := by exact fun _ _ => rfl) : EG X W g ρ (.Subscript a b pos) (m.bind fun x => n.bind fun i => idxD x i) := by
  obtain ⟨ta, pa, qa⟩ := h.ex
  obtain ⟨tb, pb, qb⟩ := h2.ex
  refine ⟨_, pe_ix ix_seq pa pb hs, fun S own σ H Q rs hP => two_run (R' := fun v u H2 => rIx X.K v u H2 Q) qa qb rs hP fun x i v u H2 s r1 r2 hp => ?_⟩
  obtain ⟨d⟩ := x
  cases r2
  cases r1 with
  | lst r1 r3 =>
    obtain ⟨j, y, ej, ey, hq⟩ := idx_get (show Post ((idxM _ i).bind fun d => .ok (PD.mk d)) _ _ from hp)
    obtain ⟨w, e3, r4⟩ := dpAll_get r3 ey
    refine .inl ⟨_, _, i, w, rfl, rfl, hide_sub.seq r1, ?_, hq H2 w s r4⟩
    unfold atI
    rw [dpAll_length r3, ej]
    exact e3
  | tup r1 r3 =>
    obtain ⟨j, y, ej, ey, hq⟩ := idx_get (show Post ((idxM _ i).bind fun d => .ok (PD.mk d)) _ _ from hp)
    obtain ⟨w, e3, r4⟩ := dpAll_get r3 ey
    refine .inr (.inl ⟨_, _, i, w, rfl, rfl, SqT.same hide_sub r1, ?_, hq H2 w s r4⟩)
    unfold atI
    rw [dpAll_length r3, ej]
    exact e3
  | _ => exact hp.elim
theorem e_ixDp {x : PD} {i : Int} (h : EG X W g ρ a (.ok x)) (h2 : EG X W true ρ b (.ok i)) (hs : PlainIx b := by exact fun _ _ => rfl) : EG X W g ρ (.Subscript a b pos) (idxD x i) := e_ixD h h2 hs
theorem e_asB {m : Res PD} (h : EG X W true ρ e m) : EG X W g ρ e (m.bind asB) := by
  obtain ⟨t, p, q⟩ := h.ex
  refine ⟨t, p, fun S own σ H Q rs hp => q S own σ H Q rs (hp.bind.imp (fun x hx H' v s r => ?_) fun _ z => z)⟩
  obtain ⟨d⟩ := x
  cases r with
  | bl b => exact hx H' _ s rfl
  | _ => exact hx.elim
theorem e_asBp {x : PD} (h : EG X W true ρ e (.ok x)) : EG X W g ρ e (asB x) := e_asB h
theorem e_asI {m : Res PD} (h : EG X W true ρ e m) : EG X W g ρ e (m.bind asI) := by
  obtain ⟨t, p, q⟩ := h.ex
  refine ⟨t, p, fun S own σ H Q rs hp => q S own σ H Q rs (hp.bind.imp (fun x hx H' v s r => ?_) fun _ z => z)⟩
  obtain ⟨d⟩ := x
  cases r with
  | int b => exact hx H' _ s rfl
  | _ => exact hx.elim
theorem e_asIp {x : PD} (h : EG X W true ρ e (.ok x)) : EG X W g ρ e (asI x) := e_asI h
theorem e_asS {m : Res PD} (h : EG X W true ρ e m) : EG X W g ρ e (m.bind asS) := by
  obtain ⟨t, p, q⟩ := h.ex
  refine ⟨t, p, fun S own σ H Q rs hp => q S own σ H Q rs (hp.bind.imp (fun x hx H' v s r => ?_) fun _ z => z)⟩
  obtain ⟨d⟩ := x
  cases r with
  | str b => exact hx H' _ s rfl
  | _ => exact hx.elim
theorem e_asSp {x : PD} (h : EG X W true ρ e (.ok x)) : EG X W g ρ e (asS x) := e_asS h
theorem dp_non {K : PySem.W.Frag} {H : Hp} {v : V} {x : PD} (h : Dp K H v x.d) : decide (v = .non) = isNon x := by
  obtain ⟨d⟩ := x
  cases h <;> rfl
theorem e_isND {m : Res PD} {j p2} (h : EG X W true ρ a m) : CJ X W ρ .Is a (.Constant .none j p2) (m.bind fun x => .ok (isNon x)) := by
  obtain ⟨ta, pa, qa⟩ := h.ex
  refine ⟨_, _, _, op_isN, nomark _, pa, pe_non, fun S own σ H Q R rs hp hR => one_run (R' := fun v H2 => (V.non = .non ∧ R (.bl (decide (v = .non))) H2)) qa rs hp fun x v H2 s r1 hq => ⟨rfl, ?_⟩⟩
  rw [dp_non r1]
  exact hR _ _ (hq H2 s)
theorem e_isNDp {x : PD} {j p2} (h : EG X W true ρ a (.ok x)) : CJ X W ρ .Is a (.Constant .none j p2) (.ok (isNon x)) := e_isND h
theorem e_isnotND {m : Res PD} {j p2} (h : EG X W true ρ a m) : CJ X W ρ .IsNot a (.Constant .none j p2) (m.bind fun x => .ok (!isNon x)) := by
  obtain ⟨ta, pa, qa⟩ := h.ex
  refine ⟨_, _, _, op_notN, nomark _, pa, pe_non, fun S own σ H Q R rs hp hR => one_run (R' := fun v H2 => (V.non = .non ∧ R (.bl (!decide (v = .non))) H2)) qa rs hp fun x v H2 s r1 hq => ⟨rfl, ?_⟩⟩
  rw [dp_non r1]
  exact hR _ _ (hq H2 s)
theorem e_isnotNDp {x : PD} {j p2} (h : EG X W true ρ a (.ok x)) : CJ X W ρ .IsNot a (.Constant .none j p2) (.ok (!isNon x)) := e_isnotND h
theorem e_eqvD {m n : Res PD} (C : CtxOk X W lv) (h : EG X W true ρ a m) (h2 : EG X W true ρ b n) : CJ X W ρ .Eq a b (m.bind fun x => n.bind fun y => eqvD x y) :=
  e_cmpR (f := eqvD) (op_eqD C.room.units) (nomark _) h h2 (fun _ _ H x y v u Q r1 r2 hq => by
    obtain ⟨h1, hq⟩ := hq.guard
    rw [Bool.and_eq_true] at h1
    exact ⟨_, _, dp_same hide_sub r1, dp_same hide_sub r2, h1.1, h1.2, hq⟩)
theorem e_eqvDp {x y : PD} (C : CtxOk X W lv) (h : EG X W true ρ a (.ok x)) (h2 : EG X W true ρ b (.ok y)) : CJ X W ρ .Eq a b (eqvD x y) := e_eqvD C h h2
end
section
variable {P : Program} {w : World} {K : PySem.W.Frag} {mg : Str → Option Value} {base : Heap} {x qual : Str} {params : Arguments} {body : List Stmt} {scope : Scope} {kws : List (Str × V)} {fd : FuncData} {ps : List Str} {k : Nat} {A : Type} {as : A → List AV}
/-- where nothing is promised -/
theorem fok_bad {R : Type} [Rp R] {f : A → Res R} (F : FunD K x qual params body scope [] kws (He.ga K x) fd) (hgl : mg x = some (.ref (He.ga K x))) (hb : Binds K fd ps []) (hf : ∀ u, f u = .bad) : FOk P w K mg base x k (spOf K as f) := by
  have no : ∀ vs H Q E, ¬ spOf K as f vs H Q E := fun vs H Q E h => by
    obtain ⟨S, u, _, _, hp⟩ := h
    rw [hf u] at hp
    exact hp
  exact ⟨⟨fd, ps, ⟨fun vs H Q E h => (no _ _ _ _ h).elim, fun A outer s H args us vs Q E _ _ _ _ h => (no _ _ _ _ h).elim⟩, hb⟩, F.kp, hgl⟩
end
end Py

set_option Elab.async false
set_option linter.all false
set_option maxRecDepth 100000
set_option maxHeartbeats 4000000
namespace Py
open PySem PySem.Spec PyProof.Rows L2
open Rp (rp)
/-! ### facts of the top: the layer's, and a boolean of one's own -/
def obsP (fb : PySem.W.Frag → Bool) (fa : List He.Fa) (fn : List He.DefD) (K : PySem.W.Frag) : He.AlD := (fb K && (He.obsD fa fn K).1, (He.obsD fa fn K).2)
def obsPG (n : Nat) (fb : PySem.W.Frag → Bool) (fa : List He.Fa) (fn : List He.DefD) (g : Addr → Option Obj) : He.AlD := obsP fb fa fn (He.frG g (He.asD g n))
structure SaysP (fb : PySem.W.Frag → Bool) (fa : List He.Fa) (fn : List He.DefD) (K : PySem.W.Frag) : Prop where
  eq : obsP fb fa fn K = He.valD fn
def hookP (n : Nat) (fb : PySem.W.Frag → Bool) (fa : List He.Fa) (fn : List He.DefD) : PySem.W.Hook where
  α := He.AlD
  obs := fun s => obsPG n fb fa fn s.heap.get?
  val := fun _ => He.valD fn
  says := fun _ h => ∃ K : PySem.W.Frag, K.In h ∧ SaysP fb fa fn K
  of := fun _ _ e => ⟨_, He.frG_in, ⟨e⟩⟩
  keeps := fun _ _ _ ⟨K, hK, c⟩ k => ⟨K, PySem.W.Frag.In.keeps hK k, c⟩
theorem obsPG_eq {n : Nat} {fb : PySem.W.Frag → Bool} {fa : List He.Fa} {fn : List He.DefD} {g : Addr → Option Obj} {s : Shared} (h : ∀ a, g a = s.heap.get? a) : obsPG n fb fa fn g = (hookP n fb fa fn).obs s := by
  have e : g = s.heap.get? := funext h
  rw [e] <;> rfl
theorem SaysP.own {fb : PySem.W.Frag → Bool} {fa : List He.Fa} {fn : List He.DefD} {K : PySem.W.Frag} (c : SaysP fb fa fn K) : fb K = true :=
  (He.ba (show (fb K && (He.obsD fa fn K).1) = true from congrArg (fun z : He.AlD => z.1) c.eq)).1
theorem SaysP.says {fb : PySem.W.Frag → Bool} {fa : List He.Fa} {fn : List He.DefD} {K : PySem.W.Frag} (c : SaysP fb fa fn K) : He.SaysD fa fn K := by
  have h1 := (He.ba (show (fb K && (He.obsD fa fn K).1) = true from congrArg (fun z : He.AlD => z.1) c.eq)).2
  have h2 : (obsP fb fa fn K).2 = (He.valD fn).2 := congrArg (fun z : He.AlD => z.2) c.eq
  exact Prod.ext h1 h2
/-- a name of the top that is bound to a builtin -/
def bltB (x : Str) (b : String) (K : PySem.W.Frag) : Bool := He.eqO (PySem.W.nsIn K mainGlobals x) (some (some (.builtin b)))
theorem bltB_ok {K : PySem.W.Frag} {h : Heap} {mg : Str → Option Value} (X : K.In h) (G : h.Ns mainGlobals mg) {x : Str} {b : String} (c : bltB x b K = true) : mg x = some (.builtin b) := PySem.W.mg_of X G (He.eqO_ok c)
/-- the law's def, its frame's names in sight -/
theorem fn_data {P : Program} {w : World} {K : PySem.W.Frag} {mg : Str → Option Value} {base : Heap} {x qual : Str} {params : Arguments} {body : List Stmt} {scope : Scope} {kws : List (Str × V)} {fd : FuncData} {N ps : List Str} {k : Nat} {A : Type} {as : A → List AV}
    {R : Type} [Rp R] {f : A → Res R} {ρ0 : A → List Slot} (F : FunD K x qual params body scope [] kws (He.ga K x) fd) (S : FnScope N ps scope) (hl : ∀ u, (as u).length = ps.length := by intro _; rfl)
    (h0 : ∀ u, ρ0 u = (as u).map AV.slot ++ List.replicate (N.length - ps.length) .non := by intro _; rfl)
    (d : ∀ cdv A outer s H E, CtxOk (fcx P w K mg base N qual scope (He.ga K x) cdv A outer s H E) (fun c d _ H' => E c d H') k → ∀ u, SR (fcx P w K mg base N qual scope (He.ga K x) cdv A outer s H E) (fun c d _ H' => E c d H') none (ρ0 u) body (retD R) (f u)) :
    FnOk P w K mg base (L2N.CX P w) (k + 1) (He.ga K x) fd ps (spOf K as f) := by
  refine FunD.ok F S (fun vs H Q E h => ?_) (fun cdv A outer s H vs Q E hr h => ?_)
  · obtain ⟨S', u, _, r, _⟩ := h
    rw [r.length, hl]
  · obtain ⟨S', u, hd, r, hp⟩ := h
    obtain ⟨t, p, q⟩ := (d cdv A outer s H E (fctx S hr) u).ex
    refine ⟨t, p, q S' [] _ H _ ?_ (hp.imp (fun y hy v σ' H' own' x' _ z => hy H' v x'.nil_same (Rp.mono (hide_mono fun b hb => List.mem_append_left _ hb) z)) fun e he σ' H' own' c d x' _ z => ?_)⟩
    · rw [h0, ← hl u, ← r.length]
      exact rs_start r hd
    · obtain ⟨z1, dx, fs, z2, z3, z4⟩ := z
      refine he H' c d x'.nil_same ⟨z1, dx, fs, z2, hide_mono (fun b hb => List.mem_append_left _ hb) _ _ z3, Paired.imp2 z4 fun a b z => ⟨z.1, ?_⟩⟩
      exact (dp_same (hide_mono fun b hb => List.mem_append_left _ hb) z.2)
/-- the walk of a law of one number list, of bounded digits -/
theorem walk_py {l : PySem.W.OpenLaw} {n k : Nat} {q : Program} {loose : List Str} {XP : (Str → Option Value) → Heap → Prop} {YP : World → Heap → Prop} {d : DefRec} {x : Str} {f : Scr × Unit → Res Bool}
    (hn : l.most = some n) (hn2 : n ≤ sizeLine) (hdf : d.params.defaults = []) (hr : Room k callerA)
    (hf : ∀ ns : List Int, ns.length ≤ n → (∀ z ∈ ns, Builtin.Int.intBits z ≤ 1048576) → f (⟨ns⟩, ()) = .ok true)
    (F : ∀ (w : World) (mg : Str → Option Value) (fa : Addr) (h : Heap), YP w h → h.Ns mainGlobals mg → mg d.name = some (.ref fa) →
      ∃ (K : PySem.W.Frag) (fd : FuncData), K.In h ∧ (∀ (s : Shared) (u : Value), BindsTo s fd ⟨[u], []⟩ [(x, u)]) ∧
        ∀ base : Heap, K.In base → base.Ns mainGlobals mg → FnOk l.prog w K mg base (L2N.CX l.prog w) k fa fd [x] (spOf K (asC asN) f)) :
    PySem.W.WalkO q loose XP YP l.row.toRowW d [] (fun f vs => PySem.call f vs) := by
  refine Att.attach_callB hn hdf fun w s₀ s₁ mg mb fa o pm cd doc a vs ns G Y ho hd hcd hmg hobj hints hlen hbits hg => ?_
  obtain ⟨K, fd, KX, hb, hF⟩ := F w mg fa _ Y G.T.g hmg
  refine law_call KX G.T.g G.T.b G.T.builtins G.T.nolimit hg hobj hints (Nat.le_trans hlen hn2) hr hF hb (fun H hO hS => law_sp (hf ns hlen hbits) hS) fun H e s' h => ?_
  obtain ⟨_, _, _, _, _, _, _, _, _, _, _, _, z⟩ := h
  exact z.elim
end Py

set_option Elab.async false
set_option linter.all false
set_option maxRecDepth 100000
set_option maxHeartbeats 4000000
/-! Py, part X: own errors: classes over ValueError whose __init__ says super().__init__(..), then self.f = .. -/
namespace Py
open PySem PySem.Spec L2
open Rp (rp)
/-- what the written part says of such a class and its __init__ -/
structure SupC (P : Program) (K : PySem.W.Frag) (C fI : Addr) (qual : Str) (params : Arguments) (body : List Stmt) (scope : Scope) (fd : FuncData) : Prop where
  ox : OexC K C
  iC : PySem.W.findIn K (.ref C) "__init__" = some (some (.ref fI))
  tI : PySem.W.typeIn K (.ref fI) = some (.type "function")
  fn : ∃ oc od osl dV kV doc pm an ct cda cc, fd = PySem.W.ksFn "__init__" qual params body scope dV kV doc pm an (.ref cda) ct cc ∧ K.lookup fI = some ⟨oc, od, .func fd, osl⟩ ∧ PySem.W.codeIn K (.ref cda) qual = true ∧
    (∃ ccl cdd vs ccs file tf, K.lookup cda = some ⟨ccl, cdd, .fields vs, ccs⟩ ∧ vs[2]? = some (.str file tf) ∧ ((P.main.file : Str) == file) = true) ∧ ∃ cl cld csl, K.lookup cc = some ⟨cl, cld, .cell (some (.ref C)), csl⟩
  su : PySem.W.ks_superIn K C C "__init__" = some (some (.builtin "ValueError.__init__"))
  sv : PySem.W.subIn K (.ref C) (.type "ValueError") = some true
  sC : PySem.W.mroIn K C (.ref C) = some true
  op : PySem.W.nsIn K cStatics "thirdparty.any" = some none
  ns : PySem.W.nsIn K mainGlobals "super" = some none
/-- the text's scope of such an __init__ -/
structure SupS (P : Program) (params : Arguments) (scope : Scope) (p : Str) : Prop where
  kind : scope.kind = .function
  co : scope.isCoroutine = false
  gen : scope.isGenerator = false
  cell : ∀ x ∈ scope.names, x.2 ≠ .cell
  free : ∀ x ∈ scope.names, x.2 = .free → x.1 = "__class__"
  self : scope.names.lookup ("self" : Str) = some .local
  par : scope.names.lookup p = some .local
  sup : scope.names.lookup ("super" : Str) = some .globalImplicit
  cls : scope.names.lookup ("__class__" : Str) = some .free
  head : ∃ ar, (params.posonlyargs ++ params.args).head? = some ar ∧ ar.arg = "self"
  nd : ("self" : Str) ≠ p
  top : (P.main.scope.names.lookup ("super" : Str)).isSome = false
/-- the context of that def -/
def cxS (CX : CXT) (P : Program) (w : World) (K : PySem.W.Frag) (mg : Str → Option Value) (base : Heap) (N : List Str) (qual : Str) (scope : Scope) (f : Addr) (cd : Value) (cc : Addr) (A : Around) (outer : List Env) (s : Shared) (H : Hp) (E : XK) : Cx where
  prog := P
  w := w
  K := K
  mg := mg
  base := base
  A := A.deeper (PySem.W.ksEnv qual scope s.heap.objs.size f cd cc)
  N := N
  s_0 := s
  H_0 := H
  env := PySem.W.ksEnv qual scope s.heap.objs.size f cd cc
  outer := outer
  stack := PySem.W.ksEnv qual scope s.heap.objs.size f cd cc :: outer
  ex := []
  calm := true
  fn := fun _ => false
  pn := []
  xe := fun e s' => wpAny (model P w) (A.deeper (PySem.W.ksEnv qual scope s.heap.objs.size f cd cc)) (leaving (PySem.W.ksEnv qual scope s.heap.objs.size f cd cc) e) (fun _ s'' => CX outer H s E e s'') (fun e' s'' => CX outer H s E e' s'') s'
section
variable {CX : CXT} {P : Program} {w : World} {K : PySem.W.Frag} {mg : Str → Option Value} {base : Heap} {qual : Str} {params : Arguments} {body : List Stmt} {scope : Scope} {p : Str} {fd : FuncData} {C fI : Addr}
theorem cls_lookup {x : Str} {cc c : Addr} (h : List.lookup x [(("__class__" : Str), cc)] = some c) : c = cc ∧ x = "__class__" := by
  by_cases e : x = "__class__"
  · subst e
    simp [List.lookup] at h
    exact ⟨h.symm, rfl⟩
  · have e2 : (x == ("__class__" : Str)) = false := by simpa using e
    simp [List.lookup, e2] at h
theorem inv_sup {A : Around} {outer : List Env} {s : Shared} {H : Hp} {E : XK} {f cc a : Addr} {cd u : Value} {y : V} {h₁ : Heap} {tk : Nat} {oc : Obj} {vc : Option Value} (S : SupS P params scope p) (hd : A.handled = none) (e0 : Env0 P w K mg base A outer s H)
    (hcc : base.get? cc = some oc) (hcd : oc.data = .cell vc) (ry : RelV y u) (hns : h₁.Ns s.heap.objs.size (fun x => (List.zip [("self" : Str), p] [Value.ref a, u]).reverse.lookup x)) (hk : ∀ b o, s.heap.get? b = some o → h₁.get? b = some o) :
    Inv (cxS CX P w K mg base ["self", p] qual scope f cd cc A outer s H E) [] (start ["self", p] [.ref a, y]) H { s with heap := h₁, toks := tk } := by
  have noA : ∀ b : Addr, b ∉ (cxS CX P w K mg base ["self", p] qual scope f cd cc A outer s H E).ex := fun b z => absurd (show b ∈ ([] : List Addr) from z) (by simp)
  have c1 := e0.bs cc oc hcc
  refine ⟨⟨e0.mod, S.kind, rfl, rfl, Nat.le_refl _, fun y z c h1 h2 => ?_, fun y hy => ?_, fun y c z h => ?_, fun _ => hd, Around.frames_deeper e0.frames, .inr ⟨rfl, rfl⟩, fun b z => absurd z (noA b), e0.bs, e0.bsz, fun b _ _ => noA b, fun b z => absurd z (noA b), e0.funs, e0.frf⟩,
    rfl, e0.bare, Un.kept hk, ⟨_, hns, fun i x v h1 h2 h3 => ?_⟩, fun y c h => ?_, e0.hok.fresh (Nat.le_refl _), fun y c h => ?_, fun p hp => absurd (show p ∈ ([] : List (Addr × Obj)) from hp) (by simp), e0.hok.kept hk, rfl⟩
  · exact (cls_lookup h1).2.trans (cls_lookup h2).2.symm
  · have hy : scope.names.lookup y = some .cell ∨ scope.names.lookup y = some .free := hy
    rcases hy with hy | hy
    · exact absurd rfl (S.cell _ (PySem.mem_of_lookup hy))
    · have e := S.free _ (PySem.mem_of_lookup hy) rfl
      have e' : y = "__class__" := e
      subst e'
      exact ⟨cc, by show List.lookup ("__class__" : Str) [(("__class__" : Str), cc)] = some cc; simp [List.lookup]⟩
  · exact absurd (show false = true from z) (by decide)
  · match i, h1, h2 with
    | 0, h1, h2 =>
      have e1 : ("self" : Str) = x := Option.some.inj h1
      have e2 : some (V.ref a) = some v := Option.some.inj h2
      have e3 : V.ref a = v := Option.some.inj e2
      subst e1
      subst e3
      refine ⟨.ref a, rfl, .inl ⟨S.self, ?_⟩⟩
      have z : (("self" : Str) == p) = false := by simpa using S.nd
      show List.lookup ("self" : Str) [(p, u), ("self", Value.ref a)] = _
      rw [List.lookup, z]
      simp [List.lookup]
    | 1, h1, h2 =>
      have e1 : p = x := Option.some.inj h1
      have e2 : some y = some v := Option.some.inj h2
      have e3 : y = v := Option.some.inj e2
      subst e1
      subst e3
      refine ⟨u, ry, .inl ⟨S.par, ?_⟩⟩
      show List.lookup p [(p, u), ("self", Value.ref a)] = _
      simp [List.lookup]
    | n + 2, h1, h2 =>
      have h1' : ([] : List Str)[n]? = some x := h1
      simp at h1'
  · obtain ⟨e, _⟩ := cls_lookup h
    subst e
    exact ⟨vc, oc, hk _ _ c1.1, hcd⟩
  · obtain ⟨e, _⟩ := cls_lookup h
    subst e
    exact c1.2

/-- the def: super().__init__(..), then self.f = p -/
theorem sup_ok {a0 : Expr} {as : List Expr} {fld : Str} {p0 p1 p2 p3 p4 p5 p6 p7 p8 : Pos} {ta : TA} {k : Nat} {pl : Sem Bool}
    (T : SupC P K C fI qual params [.Expr (.Call (.Attribute (.Call (.Name "super" p0) [] [] p1) "__init__" p2) (a0 :: as) [] p3) p4, .Assign [.Attribute (.Name "self" p5) fld p6] (.Name p p8) p7] scope fd) (S : SupS P params scope p)
    (hfld : PySem.W.findIn K (.ref C) fld = some none) (hpd : (p == ("__debug__" : Str)) = false) (hpc : (p == ("__classdict__" : Str)) = false)
    (ha : ∀ f cd cc A outer s H E, PA (cxS CX P w K mg base ["self", p] qual scope f cd cc A outer s H E) (a0 :: as) ta)
    (hcl : ∀ env : Env, eval (.Call (.Attribute (.Call (.Name "super" p0) [] [] p1) "__init__" p2) (a0 :: as) [] p3) env = (do
      let ov ← attributeBase (.Call (.Name "super" p0) [] [] p1) "__init__" env (eval (.Call (.Name "super" p0) [] [] p1) env)
      standAt p2.atName
      let (f, first) ← holding [ov] (getMethod ov "__init__" pl)
      callWith p3 f first (backTo p3 (starEach (a0 :: as) env)) []))
    (hst : ∀ env : Env, starEach (a0 :: as) env = (false, eval a0 env) :: starEach as env) (hpl : ∀ env : Env, (backTo p3 (starEach as env)).any (·.1) = false)
    (hsw0 : ∀ (n : Nat) (env : Env), swapsWith (.Call (.Attribute (.Call (.Name "super" p0) [] [] p1) "__init__" p2) (a0 :: as) [] p3) none n env = pure false)
    (hsw : ∀ env : Env, swapsWith (.Name p p8) (some (.Attribute (.Name "self" p5) fld p6)) p7.line env = pure false) :
    FnOk P w K mg base CX (k + 1) fI fd ["self", p] (fun vs H Q _ => ∃ a y, vs = [.ref a, y] ∧ H a = some (exo a C none) ∧ (∀ Q', (∀ ms : List V, ms.length ≤ 1000 → Q' ms H) → ta (start ["self", p] [.ref a, y]) H Q') ∧
      ∀ dx, H dx = none → dx ≠ a → Q .non (upd (upd H dx (exd dx [(fld, y)])) a (exo a C (some dx)))) := by
  refine ⟨fun vs H Q E h => ?_, fun A outer s H args us vs Q E hr e0 hb r hsp => ?_⟩
  · obtain ⟨a, y, rfl, _⟩ := h
    rfl
  obtain ⟨a, y, rfl, ea, hta, hQ⟩ := hsp
  obtain ⟨u, rfl, ry⟩ : ∃ u, us = [.ref a, u] ∧ RelV y u := by
    cases r with
    | cons r1 r2 =>
      cases r2 with
      | cons r3 r4 =>
        cases r4
        have r1' : _ = Value.ref a := r1
        subst r1'
        exact ⟨_, rfl, r3⟩
  have KX : K.In s.heap := e0.mod.kin.keeps fun b o e => (e0.bs b o e).1
  have lim : s.heap.NoLimit := e0.mod.nolimit.keeps fun b o e => (e0.bs b o e).1
  obtain ⟨oc, od, osl, dV, kV, doc, pm, an, ct, cda, cc, rfl, lk, hcd, ⟨ccl, cdd, vs, ccs, file, tf, hco, hvs, hfile⟩, cl, cld, csl, hcell⟩ := T.fn
  obtain ⟨ar, har, hself⟩ := S.head
  refine ks_codeAny_call_defAt (fd := PySem.W.ksFn "__init__" qual params _ scope dV kV doc pm an (.ref cda) ct cc) (body := _) (binds := List.zip [("self" : Str), p] [Value.ref a, u]) hr.depth (KX _ _ lk) rfl lim (PySem.W.codeRec_of KX hcd) rfl hb S.cell (fun z hz => ?_) (fun h₁ hns hk₁ => ?_) S.co S.gen S.kind
  · rcases List.mem_cons.mp hz with rfl | hz
    · exact S.self
    · rcases List.mem_cons.mp hz with rfl | hz
      · exact S.par
      · cases hz
  have I : Inv (cxS CX P w K mg base ["self", p] qual scope fI (.ref cda) cc A outer s H E) [] (start ["self", p] [.ref a, y]) H { s with heap := h₁, toks := s.toks + (List.zip [("self" : Str), p] [Value.ref a, u]).length } :=
    inv_sup S hr.hd e0 (e0.mod.kin _ _ hcell) rfl ry hns hk₁
  have X1 : K.In h₁ := I.kIn
  obtain ⟨mb, hb1, hb2⟩ := e0.mod.blt
  have bk : ∀ b o, base.get? b = some o → h₁.get? b = some o := I.bk
  obtain ⟨nm, q, N, bs, bm, sn, sub, ab, col, dd, k0, k1, k2, k3, k5, hC, hbm⟩ := T.ox.cls
  obtain ⟨t1, hx⟩ := exo_at I.hok ea
  refine ks_wpAt_execs_cons (ks_wpAt_Expr_any (ks_wpAt_MethodCall (pl := pl) ?_ (hcl _)) (by show (scope.kind == .module && _) = false; rw [S.kind]; rfl) (hsw0 _ _))
  refine ks_wpAt_super_base (env := PySem.W.ksEnv qual scope s.heap.objs.size fI (.ref cda) cc) S.sup S.cls rfl rfl (X1 _ _ lk) rfl har rfl (X1 _ _ hco) rfl hvs hfile S.top ?_
  refine PySem.W.ks_loadName_global S.kind S.sup (PySem.Calls.loadGlobal_builtin (env := PySem.W.ksEnv qual scope s.heap.objs.size fI (.ref cda) cc) (e0.mod.glob.keeps bk) (PySem.W.mg_none_of e0.mod.kin e0.mod.glob T.ns) (hb1.keeps bk) ((hb2 _ (by decide +kernel)).trans PyProof.Rows.Boot.«super») ⟨rfl, ?_⟩)
  refine wpAny_loadName_free S.kind S.cls rfl ⟨_, X1 _ _ hcell, rfl⟩ ?_
  rw [hself]
  refine wpAny_loadName_local S.kind S.self hns (v := .ref a) ?_ ?_
  · have z : (("self" : Str) == p) = false := by simpa using S.nd
    show List.lookup ("self" : Str) [(p, u), ("self", Value.ref a)] = _
    rw [List.lookup, z]
    simp [List.lookup]
  refine ks_wpAny_isType_cls (X1 _ _ hC) rfl ⟨rfl, ?_⟩
  refine ks_wpAny_call_super (X1 _ _ hC) rfl hx rfl (fun c e => by cases e) (PySem.W.looks_mroIn X1 T.sC) (fun h2 hso hk2 => ?_)
  have X2 : K.In h2 := X1.keeps hk2
  have nC : a ≠ C := fun z => by
    have z1 := X1 _ _ hC
    rw [← z, hx] at z1
    cases z1
  have hcl2 : PySem.W.clsIn K C = some { name := nm, bases := bs, mro := .ref C :: bm, ns := N, qualname := q, hasDict := true, slotNames := sn, subclasses := sub, abstract := ab, collection := col, hasDel := false } := by unfold PySem.W.clsIn; rw [hC] <;> rfl
  have hx2 := hk2 _ _ hx
  have hsu : PySem.W.alongIn K "__init__" (((Value.ref C :: bm).dropWhile (· != .ref C)).drop 1) = some (some (.builtin "ValueError.__init__")) := by
    have z := T.su
    unfold PySem.W.ks_superIn at z
    rw [hcl2] at z
    exact z
  refine PySem.W.kxs_getMethod PySem.W.kxs_ValueError hso (PySem.W.looks_opaque X2 T.op) (l₀ := .ref C :: bm) ?_ rfl X2 hsu ?_ nC rfl ?_
  · exact fun A Q E s k q => wpAny_bind ((PySem.W.looks_clsIn X2 hcl2) A _ E s k (wpAny_pure q))
  · exact (PySem.W.InstAt.type (ox := { cls := .ref C, dict := none, data := .fields #[.ref t1, .none, .none, .none, .bool false, .none] }) (od := none) ⟨hx2, rfl, rfl, trivial⟩).andThen (PySem.W.looks_subIn X2 T.sv)
  have hk3 : ∀ b o, h₁.get? b = some o → (h2.push (PySem.W.kxs_mw "ValueError.__init__" a)).get? b = some o := fun b o e => Heap.get?_push_of_some _ (hk2 b o e)
  have I2 := I.kept (t' := s.toks) hk2
  have I3 := (I.kept (t' := s.toks + (List.zip [("self" : Str), p] [Value.ref a, u]).length + 1) hk3).pins_of (pins' := [(h2.objs.size, PySem.W.kxs_mw "ValueError.__init__" a)]) fun z hz => by
    cases List.mem_singleton.mp hz
    refine ⟨Heap.get?_push_at rfl rfl, I2.hok.fresh (Nat.le_refl _), Nat.ne_of_gt I2.lt, I2.nofs (Nat.le_refl _), fun v z => by cases z⟩
  show wpAny _ _ (callWith p3 (.ref h2.objs.size) [] (backTo p3 (starEach (a0 :: as) (PySem.W.ksEnv qual scope s.heap.objs.size fI (.ref cda) cc))) []) _ _ _
  have run := (ha fI (.ref cda) cc A outer s H E).run p3 _ _ _ H (fun ms H1 => ms.length ≤ 1000 ∧ H1 = H) I3 (hta _ fun ms hm => ⟨hm, rfl⟩)
  have run' : wpAny _ _ (spliced (backTo p3 (starEach (a0 :: as) (PySem.W.ksEnv qual scope s.heap.objs.size fI (.ref cda) cc)))) _ _ _ := run
  rw [hst] at run' ⊢
  refine PySem.W.kxs_callWith (i := "ValueError.__init__") (x := a) (by show (false || (backTo p3 (starEach as _)).any (·.1)) = false; rw [hpl]; rfl) ?_
  refine PySem.Calls.evalArgs_plain (wpAny_mono run' (fun us1 s1 h1 => ?_) fun _ _ z => z)
  obtain ⟨ms, H1, J1, rm, hml, rfl⟩ := h1
  have hu : s1.heap.get? h2.objs.size = some (PySem.W.kxs_mw "ValueError.__init__" a) := (J1.pin _ (List.mem_append_right _ (List.mem_singleton.mpr rfl))).1
  refine ⟨hu, ?_⟩
  have hlen : us1.length ≤ sizeLine := by
    rw [← Paired.length rm, sizeLine_eq]
    omega
  obtain ⟨t2, hx3⟩ := exo_at J1.hok ea
  have X3 : K.In s1.heap := J1.kIn
  obtain ⟨hp, g, dr, tk, os⟩ := s1
  show wpAny _ _ (call (.ref h2.objs.size) us1) _ _ _
  refine wpAny_call (codeAny_of_tree ?_)
  show wpAny _ (A.deeper _).in1 (callAny (.ref h2.objs.size) ⟨us1, []⟩) _ _ _
  simp only [callAny]
  refine wpAny_bind (wpAny_load hu ?_)
  simp only [PySem.W.kxs_mw, show (Value.type "method-wrapper" == Value.type "method" || Value.type "method-wrapper" == Value.type "builtin_function_or_method" || Value.type "method-wrapper" == Value.type "method-wrapper") = true by decide, if_true]
  refine PySem.W.KFB.if_so (by decide) ?_
  refine wpAny_bind (PySem.W.check_bound_init F.excBase_ValueError.toExcCallFacts (X3 _ _ hC) hx3 rfl ?_)
  refine wpAny_bind (wpAny_pure (wpAny_pure ?_))
  refine ⟨plainId_quiet F.excBase_ValueError.init.plain _, codeAny_builtin F.excBase_ValueError.initEntry ?_⟩
  refine PySem.W.exc_init_tree (cls := .ref C) (t0 := t2) (dv := none) (c2 := .none) (c3 := .none) (b4 := .bool false) hx3 hlen (fun h4 k4 e4 _ => ?_)
  have J4 := J1.write (t' := tk) (x := a) (e := a) (o := exo a C none) (by rw [ea]; exact True.intro) (.inl rfl) k4 ⟨_, e4⟩ (exo_ok e4)
  have eu : upd H1 a (exo a C none) = H1 := by
    funext b
    by_cases hb : b = a
    · rw [hb, upd_same, ea]
    · rw [upd_ne hb]
  rw [eu] at J4
  have J5 := J4.pins_of (pins' := []) fun _ z => nomatch z
  have nd0 : List.Nodup [("self" : Str), p] := List.nodup_cons.mpr ⟨fun z => S.nd (List.mem_singleton.mp z), List.nodup_cons.mpr ⟨(fun z => nomatch z), List.nodup_nil⟩⟩
  have ps : PSs (cxS CX P w K mg base ["self", p] qual scope fI (.ref cda) cc A outer s H1 E) [.Assign [.Attribute (.Name "self" p5) fld p6] (.Name p p8) p7] _ :=
    pss_one (ps_ost (pe_var (i := 0) rfl (.inl S.self)) (pe_var (i := 1) rfl (.inl S.par) hpd hpc) (hsw _))
  have fin := ps.run [] _ (start ["self", p] [.ref a, y]) H1 { nx := fun _ H' => Q .non H', rt := fun _ _ => False } J5 ⟨y, rfl, .ref a, rfl, a, C, rfl, T.ox, hfld, .inl ⟨ea, hQ⟩⟩
  have fin' : wpAny _ (A.deeper _) (execs [.Assign [.Attribute (.Name "self" p5) fld p6] (.Name p p8) p7] _) _ _ _ := fin
  refine wpAt_of_wpAny (wpAny_mono fin' (fun fl s' hs => ?_) fun _ _ z => z)
  cases fl with
  | next =>
    obtain ⟨σ', H', J, q⟩ := hs
    exact ⟨.non, H', J.os, J.bare, J.base, J.hok, rfl, q⟩
  | ret u =>
    obtain ⟨v, σ', H', J, rv, q⟩ := hs
    exact q.elim
  | brk =>
    obtain ⟨_, _, _, q⟩ := hs
    exact False.elim q
  | cont =>
    obtain ⟨_, _, _, q⟩ := hs
    exact False.elim q
end
end Py

set_option Elab.async false
set_option linter.all false
set_option maxRecDepth 100000
set_option maxHeartbeats 4000000
/-! Py, part X2: own errors: the facts of the top, raising. -/
namespace Py
open PySem PySem.Spec L2
open Rp (rp)
/-! ### facts -/
def oexB (K : PySem.W.Frag) (C : Addr) : Bool := match K.lookup C with
  | some ⟨.type "type", _, .cls cd, sl⟩ => (match cd.mro, sl.toList with
    | .ref C' :: bm, [_, _, _, _, some (.builtin n), _] => C' == C && n == "ValueError.__new__" && !cd.hasDel && cd.hasDict && PySem.HandSPX.refsVE bm
    | _, _ => false)
  | _ => false
theorem oexB_ok {K : PySem.W.Frag} {C : Addr} (q : oexB K C = true) : ∃ nm q N bs bm sn sub ab col dd k0 k1 k2 k3 k5, K.lookup C = some (excClassObj nm q C N bs bm true sn sub ab col dd k0 k1 k2 k3 k5 "ValueError.__new__") ∧ PySem.HandSPX.refsVE bm = true := by
  unfold oexB at q
  split at q
  · rename_i dd cd sl ho
    split at q
    · rename_i C' bm k0 k1 k2 k3 n k5 hm hs
      simp only [Bool.and_eq_true, beq_iff_eq, Bool.not_eq_true'] at q
      obtain ⟨⟨⟨⟨rfl, rfl⟩, hdel⟩, hdi⟩, ht⟩ := q
      obtain ⟨nm, bs, mro, ns, qn, hd, sn, sub, ab, col, del⟩ := cd
      dsimp only at hm hdel hdi
      subst hm hdel hdi
      have hsl : sl = #[k0, k1, k2, k3, some (.builtin "ValueError.__new__"), k5] := by
        obtain ⟨l⟩ := sl
        simp only at hs
        rw [hs]
      subst hsl
      exact ⟨nm, qn, ns, bs, bm, sn, sub, ab, col, dd, k0, k1, k2, k3, k5, ho, ht⟩
    · cases q
  · cases q
/-- the __init__'s place -/
def initA (K : PySem.W.Frag) (C : Addr) : Addr := match PySem.W.findIn K (.ref C) "__init__" with
  | some (some (.ref f)) => f
  | _ => 0
abbrev SupW : Type := Option (Str × Str × Arguments × FuncBody × Scope × Addr × Addr)
def supW (K : PySem.W.Frag) (C : Addr) : SupW := match K.lookup (initA K C) with
  | some ⟨_, _, .func fd, _⟩ => some (fd.name, fd.qualname, fd.params, fd.body, fd.scope, fd.globals, fd.builtins)
  | _ => none
def supB (P : Program) (K : PySem.W.Frag) (x fld qual : Str) : Bool :=
  oexB K (He.ga K x) && (decide (PySem.W.findIn K (.ref (He.ga K x)) "__setattr__" = some (some (.builtin "object.__setattr__"))) && (decide (PySem.W.subIn K (.ref (He.ga K x)) (.type "BaseException") = some true) &&
  (decide (PySem.W.typeIn K (.ref (He.ga K x)) = some (.type "type")) && (PySem.W.keepIn K (.ref (He.ga K x)) && (decide (PySem.W.findIn K (.ref (He.ga K x)) "__init__" = some (some (.ref (initA K (He.ga K x))))) &&
  (decide (PySem.W.typeIn K (.ref (initA K (He.ga K x))) = some (.type "function")) && (decide (PySem.W.ks_superIn K (He.ga K x) (He.ga K x) "__init__" = some (some (.builtin "ValueError.__init__"))) &&
  (decide (PySem.W.subIn K (.ref (He.ga K x)) (.type "ValueError") = some true) && (decide (PySem.W.mroIn K (He.ga K x) (.ref (He.ga K x)) = some true) && (decide (PySem.W.nsIn K cStatics "thirdparty.any" = some none) &&
  (decide (PySem.W.nsIn K mainGlobals "super" = some none) && (decide (PySem.W.findIn K (.ref (He.ga K x)) fld = some none) &&
  (match K.lookup (initA K (He.ga K x)) with
    | some ⟨_, _, .func fd, _⟩ => decide (fd.defaults = .none) && (decide (fd.kwdefaults = .none) && ((match fd.code with
        | .ref cda => PySem.W.codeIn K (.ref cda) qual && (match K.lookup cda with
          | some ⟨_, _, .fields vs, _⟩ => (match (vs[2]? : Option Value) with
            | some (Value.str file _) => (P.main.file : Str) == file
            | _ => false)
          | _ => false)
        | _ => false) && (match fd.closure with
        | [(n, cc)] => decide (n = "__class__") && (match K.lookup cc with
          | some ⟨_, _, .cell (some (.ref D)), _⟩ => decide (D = He.ga K x)
          | _ => false)
        | _ => false)))
    | _ => false)))))))))))))
theorem supB_ok {P : Program} {K : PySem.W.Frag} {x fld qual : Str} {params : Arguments} {body : List Stmt} {scope : Scope} (h : supB P K x fld qual = true) (e : supW K (He.ga K x) = (some ("__init__", qual, params, FuncBody.stmts body, scope, mainGlobals, builtinsNs) : SupW)) :
    ∃ fd, SupC P K (He.ga K x) (initA K (He.ga K x)) qual params body scope fd ∧ PySem.W.findIn K (.ref (He.ga K x)) fld = some none ∧
      ∃ doc pm an cd ct cc, fd = PySem.W.ksFn "__init__" qual params body scope .none .none doc pm an cd ct cc := by
  unfold supB at h
  obtain ⟨h1, h⟩ := He.ba h
  obtain ⟨h2, h⟩ := He.ba h
  obtain ⟨h3, h⟩ := He.ba h
  obtain ⟨h4, h⟩ := He.ba h
  obtain ⟨h5, h⟩ := He.ba h
  obtain ⟨h6, h⟩ := He.ba h
  obtain ⟨h7, h⟩ := He.ba h
  obtain ⟨h8, h⟩ := He.ba h
  obtain ⟨h9, h⟩ := He.ba h
  obtain ⟨h10, h⟩ := He.ba h
  obtain ⟨h11, h⟩ := He.ba h
  obtain ⟨h12, h⟩ := He.ba h
  obtain ⟨h13, h⟩ := He.ba h
  unfold supW at e
  cases q : K.lookup (initA K (He.ga K x)) with
  | none => rw [q] at h; cases h
  | some o =>
    obtain ⟨oc, od, dt, osl⟩ := o
    rw [q] at h e
    cases dt with
    | func fd =>
      obtain ⟨n1, n2, n3, n4, n5, n6, n7, n8, n9, n10, n11, n12, n13, n14, n15⟩ := fd
      have e2 : (some (n1, n2, n3, n4, n5, n6, n15) : SupW) = (some ("__init__", qual, params, FuncBody.stmts body, scope, mainGlobals, builtinsNs) : SupW) := e
      simp only [Option.some.injEq, Prod.mk.injEq] at e2
      obtain ⟨g1, g2, g3, g4, g5, g6, g7⟩ := e2
      subst g1 g2 g3 g4 g5 g6 g7
      obtain ⟨k1, h⟩ := He.ba h
      obtain ⟨k2, h⟩ := He.ba h
      obtain ⟨k3, k4⟩ := He.ba h
      have j1 : n8 = .none := of_decide_eq_true k1
      have j2 : n9 = .none := of_decide_eq_true k2
      subst j1
      subst j2
      dsimp only at k3 k4
      cases n13 with
      | ref cda =>
        obtain ⟨k5, k6⟩ := He.ba k3
        rcases n7 with _ | ⟨⟨n, cc⟩, _ | ⟨_, _⟩⟩
        · cases k4
        · obtain ⟨k7, k8⟩ := He.ba k4
          have j7 : n = "__class__" := of_decide_eq_true k7
          subst j7
          split at k6
          · rename_i ccl cdd vs ccs hl
            split at k6
            · rename_i file tf hv
              split at k8
              · rename_i cl cld D csl hcc
                have j8 : D = He.ga K x := of_decide_eq_true k8
                subst j8
                exact ⟨_, ⟨⟨oexB_ok h1, of_decide_eq_true h2, of_decide_eq_true h3, of_decide_eq_true h4, h5⟩, of_decide_eq_true h6, of_decide_eq_true h7,
                  ⟨oc, od, osl, .none, .none, n10, n11, n12, n14, cda, cc, rfl, q, k5, ⟨_, _, vs, _, file, tf, hl, hv, k6⟩, _, _, _, hcc⟩,
                  of_decide_eq_true h8, of_decide_eq_true h9, of_decide_eq_true h10, of_decide_eq_true h11, of_decide_eq_true h12⟩, of_decide_eq_true h13, n10, n11, n12, _, n14, cc, rfl⟩
              · cases k8
            · cases k6
          · cases k6
        · cases k4
      | _ => cases k3
    | _ => cases h
/-! ### the classes as they are used -/
structure ErrC (P : Program) (w : World) (K : PySem.W.Frag) (mg : Str → Option Value) (base : Heap) (x fld : Str) (c : V → Prop) : Prop where
  ox : OexC K (He.ga K x)
  gl : mg x = some (.ref (He.ga K x))
  ex : ∃ fI fd p, PySem.W.findIn K (.ref (He.ga K x)) "__init__" = some (some (.ref fI)) ∧ PySem.W.typeIn K (.ref fI) = some (.type "function") ∧ FnOk P w K mg base (L2N.CX P w) 1 fI fd ["self", p] (fun vs H Q _ => ∃ a y, vs = [.ref a, y] ∧ H a = some (exo a (He.ga K x) none) ∧ c y ∧
    ∀ dx, H dx = none → dx ≠ a → Q .non (upd (upd H dx (exd dx [(fld, y)])) a (exo a (He.ga K x) (some dx)))) ∧ Binds K fd ["self", p] []
section
variable {P : Program} {w : World} {K : PySem.W.Frag} {mg : Str → Option Value} {base : Heap} {x fld p qual : Str} {c : V → Prop} {params : Arguments} {scope : Scope}
theorem errC_of {a0 : Expr} {as : List Expr} {p0 p1 p2 p3 p4 p5 p6 p7 p8 : Pos} {ta : TA} {pl : Sem Bool}
    (hB : supB P K x fld qual = true) (hW : supW K (He.ga K x) = (some ("__init__", qual, params, FuncBody.stmts [.Expr (.Call (.Attribute (.Call (.Name "super" p0) [] [] p1) "__init__" p2) (a0 :: as) [] p3) p4, .Assign [.Attribute (.Name "self" p5) fld p6] (.Name p p8) p7], scope, mainGlobals, builtinsNs) : SupW))
    (hg : mg x = some (.ref (He.ga K x))) (S : SupS P params scope p) (hpd : (p == ("__debug__" : Str)) = false) (hpc : (p == ("__classdict__" : Str)) = false)
    (hbd : ∀ (doc pm : Value) (an : Option Addr) (cd ct : Value) (cc : Addr) (us : List Value), us.length = 2 → bindArgs (PySem.W.ksFn "__init__" qual params [.Expr (.Call (.Attribute (.Call (.Name "super" p0) [] [] p1) "__init__" p2) (a0 :: as) [] p3) p4, .Assign [.Attribute (.Name "self" p5) fld p6] (.Name p p8) p7] scope .none .none doc pm an cd ct cc) ⟨us, []⟩ = pure ([("self" : Str), p].zip us))
    (ha : ∀ f cd cc A outer s H E, PA (cxS (L2N.CX P w) P w K mg base ["self", p] qual scope f cd cc A outer s H E) (a0 :: as) ta)
    (hta : ∀ a y H Q', c y → (∀ ms : List V, ms.length ≤ 1000 → Q' ms H) → ta (start ["self", p] [.ref a, y]) H Q')
    (hcl : ∀ env : Env, eval (.Call (.Attribute (.Call (.Name "super" p0) [] [] p1) "__init__" p2) (a0 :: as) [] p3) env = (do
      let ov ← attributeBase (.Call (.Name "super" p0) [] [] p1) "__init__" env (eval (.Call (.Name "super" p0) [] [] p1) env)
      standAt p2.atName
      let (f, first) ← holding [ov] (getMethod ov "__init__" pl)
      callWith p3 f first (backTo p3 (starEach (a0 :: as) env)) []) := by intro _; rfl)
    (hst : ∀ env : Env, starEach (a0 :: as) env = (false, eval a0 env) :: starEach as env := by intro _; rfl) (hpl : ∀ env : Env, (backTo p3 (starEach as env)).any (·.1) = false := by intro _; rfl)
    (hsw0 : ∀ (n : Nat) (env : Env), swapsWith (.Call (.Attribute (.Call (.Name "super" p0) [] [] p1) "__init__" p2) (a0 :: as) [] p3) none n env = pure false := by intro _ _; rfl)
    (hsw : ∀ env : Env, swapsWith (.Name p p8) (some (.Attribute (.Name "self" p5) fld p6)) p7.line env = pure false := by intro _; rfl) : ErrC P w K mg base x fld c := by
  obtain ⟨fd, T, hf, doc, pm, an, cd, ct, cc, rfl⟩ := supB_ok hB hW
  refine ⟨T.ox, hg, _, _, p, T.iC, T.tI, (sup_ok (k := 0) T S hf hpd hpc ha hcl hst hpl hsw0 hsw).imp fun vs H Q E h => ?_, Binds.all fun us hl => hbd _ _ _ _ _ _ us hl⟩
  obtain ⟨a, y, rfl, ea, hc, h⟩ := h
  exact ⟨a, y, rfl, ea, fun Q' k => hta a y H Q' hc k, h⟩
end
/-- the class called: a new error whose context is None -/
theorem pmkN {X : Cx} {x : Str} {e : Expr} {es : List Expr} {ta : TA} {pn pc : Pos} {C fI : Addr} {k : Nat} {fd : FuncData} {ps : List Str} {sp : Sp} (T : OexC X.K C) (iC : PySem.W.findIn X.K (.ref C) "__init__" = some (some (.ref fI)))
    (tI : PySem.W.typeIn X.K (.ref fI) = some (.type "function")) (F1 : FnOk X.prog X.w X.K X.mg X.base (L2N.CX X.prog X.w) k fI fd ps sp) (hr : Room (k + 1) X.A) (hb : Binds X.K fd ps []) (hg : Gl X x) (hm : X.mg x = some (.ref C))
    (ha : PA X (e :: es) ta) (hdb : (x == ("__debug__" : Str)) = false) (he : starEach (e :: es) X.env = (false, eval e X.env) :: starEach es X.env) (hpl : (backTo pc (starEach es X.env)).any (·.1) = false) :
    L2N.PMk X (.Call (.Name x pn) (e :: es) [] pc) (tMkO C sp [] ta) := by
  intro pins s0 σ H Q I0 want
  obtain ⟨nm, q, N, bs, bm, sn, sub, ab, col, dd, k0, k1, k2, k3, k5, hC, hbm⟩ := T.cls
  refine wpAny_Call_Name_kw (ld_glob I0 hg hm ?_ hdb)
  refine PySem.W.callWith_K (h₀ := X.base) I0.ok.mod.kin T.kC ?_ he hpl
  refine thn (ha.run pc pins s0 σ H _ I0 want) fun us s1 ⟨vs, H1, I1, r1, hz, q1⟩ => ⟨I1.kIn, ?_⟩
  obtain ⟨hp, g, dr, tk, os⟩ := s1
  have hn : H1 (hp.objs.size + 1) = none := I1.hok.fresh (Nat.le_succ _)
  have hq := q1 _ hn
  have kk : ∀ b o, hp.get? b = some o → ((hp.push (PySem.W.kdv_tup us)).push (PySem.HandSPX.excO C hp.objs.size)).get? b = some o := fun b o z => Heap.get?_push_of_some _ (Heap.get?_push_of_some _ z)
  have at1 : ((hp.push (PySem.W.kdv_tup us)).push (PySem.HandSPX.excO C hp.objs.size)).get? (hp.objs.size + 1) = some (PySem.HandSPX.excO C hp.objs.size) := by heap_get
  have I2 := I1.laid (t' := tk) (a := hp.objs.size + 1) (o := exo (hp.objs.size + 1) C none) kk (Nat.le_succ _) (exo_ok at1)
  have hl : (Value.ref (hp.objs.size + 1) :: us ++ []).length = ps.length := by
    have z : Vals (V.ref (hp.objs.size + 1) :: (vs ++ [])) (Value.ref (hp.objs.size + 1) :: (us ++ [])) := Paired.cons (show RelV (V.ref (hp.objs.size + 1)) (Value.ref (hp.objs.size + 1)) from rfl) (r1.append .nil)
    exact z.length.symm.trans (F1.len _ _ _ _ hq)
  have hus : us.length ≤ sizeLine := by
    rw [← Paired.length r1, sizeLine_eq]
    omega
  show wpAny _ _ (call (.ref C) us) _ _ _
  refine wpAny_call (PySem.HandSPX.call_own F.excBase_ValueError (fun Y => PySem.HandSPX.refsVE_contains Y bm hbm) (I1.kIn _ _ hC) (PySem.W.looks_findIn I1.kIn iC) (fun self => PySem.W.bind_fn I1.kIn self tI) hus ?_)
  have r2 : Vals (V.ref (hp.objs.size + 1) :: (vs ++ [])) (Value.ref (hp.objs.size + 1) :: us ++ []) := Paired.cons (show RelV (V.ref (hp.objs.size + 1)) (Value.ref (hp.objs.size + 1)) from rfl) (r1.append .nil)
  have run := F1.run _ X.stack _ _ ⟨Value.ref (hp.objs.size + 1) :: us, []⟩ (Value.ref (hp.objs.size + 1) :: us ++ []) _ _ (fun _ _ _ => False) (hr.make C us []) (I2.env0.make C us []) (hb _ (Value.ref (hp.objs.size + 1) :: us) I2.kIn hl) r2 hq
  refine codeAny_mono run fun r s' hq' => ?_
  cases r with
  | error er => exact passN pins σ _ _ er s' I2 hq'
  | ok fl =>
    cases fl with
    | ret u =>
      obtain ⟨v, H2, os2, bare2, un2, hok2, rv, ev, d, fs, ea, ed, hd1, q2⟩ := hq'
      subst ev
      obtain ⟨h2, g2, d2, t2, os'⟩ := s'
      obtain ⟨t0, G, J, kG, ge, hoe, na⟩ := mk_end0 (d2 := d2) (t2 := t2) I1 (Nat.le_succ _) kk un2 hok2 os2 bare2 ea ed hd1
      refine ⟨rv, _, _, _, ⟨G, g2, d2, t2, os'⟩, _, .ref C, some d, rfl, J, kG, ge, hoe, ⟨rfl, rfl, fun ws z => ?_⟩, rfl, rfl, na, rfl, bare2, raises_own T.exC T.tyC, q2⟩
      cases z
      rfl
    | next => exact hq'.elim
    | brk => exact hq'.elim
    | cont => exact hq'.elim
/-- raise x(v) -/
def raiseM {R : Type} (c : Bool) (x f : String) (d : PyData) : Res R := guardR c (.err ⟨x, [(f, d)]⟩)
section
variable {X : Cx} {W : WX} {ρ : List Slot} {ρe : Option (List Slot)} {T S₁ B R : Type} [Rp T] [Dat T] {a : Expr} {rest : List Stmt} {pos p1 p2 : Pos} {lv : Nat} {cls fld : String} {c : V → Prop} {cb : T → Bool} {m : Res T} {n : S₁ → List Slot} {b : B → List Slot} {Z : Rt R}
theorem raise_core (C : CtxOk X W lv) (Ec : ErrC X.prog X.w X.K X.mg X.base (Str.ofString cls) (Str.ofString fld) c) (h : EG X W true ρ a m) (hc : ∀ (K : PySem.W.Frag) (H : Hp) (y : V) (v : T), rp K H y v → cb v = true → c y) (hk : 2 ≤ lv) (w : WkO ρ ρe)
    (hg : Gl X (Str.ofString cls)) (hdb : ((Str.ofString cls) == ("__debug__" : Str)) = false) (he : starEach (a :: []) X.env = (false, eval a X.env) :: starEach [] X.env) (hpl : (backTo p2 (starEach [] X.env)).any (·.1) = false) :
    ∃ t, PS X (.Raise (some (.Call (.Name (Str.ofString cls) p1) [a] [] p2)) none pos) t ∧ ∀ (S own : List Addr) (σ : St) (H : Hp) (D : Ends) (U : Type) (P : U → Prop), RS X.K S ρ σ H own → Post (m.bind fun v => raiseM (R := U) (cb v) cls fld (Dat.toD v)) P (ErrS X.K W S own H ρe) → t D σ H := by
  obtain ⟨ta, pa, qa⟩ := h.ex
  obtain ⟨fI, fd, p, iC, tI, F1, hb⟩ := Ec.ex
  refine ⟨_, L2N.ps_raise C.calm C.tk (pmkN Ec.ox iC tI F1 (C.room.mono hk) hb hg Ec.gl (pa_cons pa pa_nil he) hdb he hpl), fun S own σ H D U P rs hp => ?_⟩
  refine qa S own σ H _ rs (hp.bind.imp (fun v hv H1 y s1 r1 => ?_) fun _ z => z.toX rs w)
  obtain ⟨hcb, hx⟩ := Post.guard hv
  refine ⟨by show 1 ≤ 1000; decide, fun a2 na => ⟨a2, y, rfl, upd_same, hc _ _ _ _ r1 hcb, fun dx nd dne => ⟨rfl, dx, [(Str.ofString fld, y)], upd_same, ?_, ?_, ?_⟩⟩⟩
  · rw [upd_ne dne, upd_same]
  · rw [upd_ne dne] at nd; exact nd
  · have nd1 : H1 dx = none := by rw [upd_ne dne] at nd; exact nd
    have sm : Same H1 (upd (del (upd (upd (upd H1 a2 (exo a2 (He.ga X.K (Str.ofString cls)) none)) dx (exd dx [(Str.ofString fld, y)])) a2 (exo a2 (He.ga X.K (Str.ofString cls)) (some dx))) a2) dx (.xd [(Str.ofString fld, y)])) := fun b o e => by
      have n1 : b ≠ a2 := fun z => by rw [z, na] at e; cases e
      have n2 : b ≠ dx := fun z => by rw [z, nd1] at e; cases e
      rw [upd_ne n2, del_ne n1, upd_ne n1, upd_ne n2, upd_ne n1]
      exact e
    have nin : dx ∉ S ++ own := fun z => by
      have q := rs.dom dx z
      cases e : H dx with
      | none => exact q e
      | some o =>
        have := s1 _ _ e
        rw [nd1] at this
        cases this
    have r2 : rp X.K (hide (S ++ own) H1) y v := r1
    have pd := Dat.dp (Rp.mono (hide_same (B := S ++ own) sm) r2)
    refine (ErrS.toX hx rs w) _ _ _ (s1.trans sm) ⟨rfl, dx, [(Str.ofString fld, y)], rfl, ?_, Paired.cons (a := (Str.ofString fld, y)) (b := (fld, Dat.toD v)) ⟨rfl, pd⟩ .nil⟩
    rw [hide_out nin]
    exact upd_same
theorem r_raise (C : CtxOk X W lv) (Ec : ErrC X.prog X.w X.K X.mg X.base (Str.ofString cls) (Str.ofString fld) c) (h : EG X W true ρ a m) (hc : ∀ (K : PySem.W.Frag) (H : Hp) (y : V) (v : T), rp K H y v → cb v = true → c y) (hk : 2 ≤ lv := by decide) (w : WkO ρ ρe := by first | exact True.intro | (repeat (first | exact Wk.nil | refine Wk.s ?_ | refine Wk.n ?_)))
    (hg : Gl X (Str.ofString cls) := by rfl) (hdb : ((Str.ofString cls) == ("__debug__" : Str)) = false := by decide) (he : starEach (a :: []) X.env = (false, eval a X.env) :: starEach [] X.env := by rfl) (hpl : (backTo p2 (starEach [] X.env)).any (·.1) = false := by rfl) :
    SR X W ρe ρ (.Raise (some (.Call (.Name (Str.ofString cls) p1) [a] [] p2)) none pos :: rest) Z (m.bind fun v => raiseM (cb v) cls fld (Dat.toD v)) := by
  obtain ⟨t, p, q⟩ := raise_core (pos := pos) (p1 := p1) (ρe := ρe) C Ec h hc hk w hg hdb he hpl
  exact ⟨_, pss_cons p pss_never, fun S own σ H D rs hp => q S own σ H _ R _ rs hp⟩
theorem b_raise (C : CtxOk X W lv) (Ec : ErrC X.prog X.w X.K X.mg X.base (Str.ofString cls) (Str.ofString fld) c) (h : EG X W true ρ a m) (hc : ∀ (K : PySem.W.Frag) (H : Hp) (y : V) (v : T), rp K H y v → cb v = true → c y) (hk : 2 ≤ lv := by decide) (w : WkO ρ ρe := by first | exact True.intro | (repeat (first | exact Wk.nil | refine Wk.s ?_ | refine Wk.n ?_)))
    (hg : Gl X (Str.ofString cls) := by rfl) (hdb : ((Str.ofString cls) == ("__debug__" : Str)) = false := by decide) (he : starEach (a :: []) X.env = (false, eval a X.env) :: starEach [] X.env := by rfl) (hpl : (backTo p2 (starEach [] X.env)).any (·.1) = false := by rfl) :
    SN X W ρe ρ (.Raise (some (.Call (.Name (Str.ofString cls) p1) [a] [] p2)) none pos :: rest) n (m.bind fun v => raiseM (cb v) cls fld (Dat.toD v)) := by
  obtain ⟨t, p, q⟩ := raise_core (pos := pos) (p1 := p1) (ρe := ρe) C Ec h hc hk w hg hdb he hpl
  exact ⟨_, pss_cons p pss_never, fun S own σ H D rs hp => q S own σ H _ S₁ _ rs hp⟩
theorem c_raise (C : CtxOk X W lv) (Ec : ErrC X.prog X.w X.K X.mg X.base (Str.ofString cls) (Str.ofString fld) c) (h : EG X W true ρ a m) (hc : ∀ (K : PySem.W.Frag) (H : Hp) (y : V) (v : T), rp K H y v → cb v = true → c y) (hk : 2 ≤ lv := by decide) (w : WkO ρ ρe := by first | exact True.intro | (repeat (first | exact Wk.nil | refine Wk.s ?_ | refine Wk.n ?_)))
    (hg : Gl X (Str.ofString cls) := by rfl) (hdb : ((Str.ofString cls) == ("__debug__" : Str)) = false := by decide) (he : starEach (a :: []) X.env = (false, eval a X.env) :: starEach [] X.env := by rfl) (hpl : (backTo p2 (starEach [] X.env)).any (·.1) = false := by rfl) :
    SC X W ρe ρ (.Raise (some (.Call (.Name (Str.ofString cls) p1) [a] [] p2)) none pos :: rest) n b Z (m.bind fun v => raiseM (cb v) cls fld (Dat.toD v)) := by
  obtain ⟨t, p, q⟩ := raise_core (pos := pos) (p1 := p1) (ρe := ρe) C Ec h hc hk w hg hdb he hpl
  exact ⟨_, pss_cons p pss_never, fun S own σ H D rs hp => q S own σ H _ (Ctl S₁ B R) _ rs hp⟩
end
end Py

set_option Elab.async false
set_option linter.all false
set_option maxRecDepth 100000
set_option maxHeartbeats 4000000
/-! Py, part X3: try .. except. -/
namespace Py
open PySem PySem.Spec L2
open Rp (rp)
theorem ofString_inj {a b : String} (h : Str.ofString a = Str.ofString b) : a = b := by
  rw [Str.ofString_eq_toList, Str.ofString_eq_toList] at h
  have h1 : a.toList.map Char.toNat = b.toList.map Char.toNat := by
    have h2 := congrArg (fun s : Str => s.1.toList) h
    simpa using h2
  have h3 : a.toList = b.toList := (List.map_inj_right (fun x y e => Char.ext (UInt32.toNat_inj.mp e))).mp h1
  exact String.toList_inj.mp h3
/-- a caught error, as the suite's name holds it: where it stands, where its dict stands, what it says -/
structure XV where
  a : Addr
  dx : Addr
  e : Ex
instance : Rp XV where
  rp K H v x := v = .ref x.a ∧ ∃ fs, H x.dx = some (.xd fs) ∧ Paired (fun (p : Str × V) (q : String × PyData) => p.1 = Str.ofString q.1 ∧ Dp K H p.2 q.2) fs x.e.fs
  mono s h := by
    obtain ⟨h1, fs, h2, h3⟩ := h
    exact ⟨h1, fs, s _ _ h2, Paired.imp2 h3 fun a b z => ⟨z.1, dp_same s z.2⟩⟩
/-- does the clause of class c take an error of class x? (all own classes stand flat under Fault) -/
def catches (c x : String) : Bool := c == "Fault" || x == c
def pickM {R : Type} (e : Ex) : List (String × (Ex → Res R)) → Res R
  | [] => .err e
  | (c, h) :: r => if catches c e.cls then (h e).quiet else pickM e r
def catchM {R : Type} (kn : List String) (hs : List (String × (Ex → Res R))) : Res R → Res R
  | .err e => if kn.contains e.cls then pickM e hs else .bad
  | .ok a => .ok a
  | .bad => .bad
def fldD (e : Ex) (f : String) : Res PD := match e.fs.lookup f with
  | some d => .ok ⟨d⟩
  | none => .bad
section
variable {S₁ B R : Type} {X : Cx} {W : WX} {ρe : Option (List Slot)} {ρ ρh : List Slot} {n : S₁ → List Slot} {b : B → List Slot} {Z : Rt R} {body : List Stmt} {lv : Nat}
/-- what a block's judgement says, as a reading -/
def semC (K : PySem.W.Frag) (W : WX) (ρe : Option (List Slot)) (ρ : List Slot) (n : S₁ → List Slot) (b : B → List Slot) (Z : Rt R) (m : Res (Ctl S₁ B R)) : TS := fun D σ H =>
  ∃ S own, RS K S ρ σ H own ∧ Post m (CtlP K S own H D n b Z) (ErrS K W S own H ρe)
theorem SC.sem {m : Res (Ctl S₁ B R)} (h : SC X W ρe ρ body n b Z m) : PSs X body (semC X.K W ρe ρ n b Z m) := by
  refine ⟨fun pins s σ H D I q => ?_⟩
  obtain ⟨S, own, rs, hp⟩ := q
  obtain ⟨t, p, k⟩ := h.ex
  exact p.run pins s σ H D I (k S own σ H D rs hp)
theorem Post.quiet_to {α : Type} {m : Res α} {P : α → Prop} {E E' : Ex → Prop} (h : Post m.quiet P E) : Post m P E' := by
  cases m with
  | ok a => exact h
  | err e => exact h.elim
  | bad => exact h.elim
/-- the context of a try's body -/
theorem CtxOk.tr (C : CtxOk X W lv) {W' : WX} {pn : List (Addr × Obj)} {xe : Value → Shared → Prop} (tk : L2N.Takes (X.tr pn xe) W') (po : PassesOwn (model X.prog X.w) X.A X.env xe) : CtxOk (X.tr pn xe) W' lv :=
  ⟨C.calm, C.nd, tk, po, C.room⟩
/-- what stands of the suite's context -/
structure SuOk (X : Cx) (a dx : Addr) (e : Ex) (oe : Obj) : Prop where
  z : L2N.Zn (.ref (He.ga X.K (Str.ofString e.cls))) (some dx) oe
  f : ∃ vs, oe.data = .fields vs
/-- the facts of the classes -/
structure ExmK (K : PySem.W.Frag) (mg : Str → Option Value) (kn : List String) : Prop where
  exm : ∀ x ∈ kn, ∀ c ∈ "Fault" :: kn, PySem.W.exmOne K (.ref (He.ga K (Str.ofString x))) (.ref (He.ga K (Str.ofString c))) = some (catches c x)
  gl : ∀ c ∈ "Fault" :: kn, mg (Str.ofString c) = some (.ref (He.ga K (Str.ofString c)))
  xf : ∀ x ∈ kn, XfC K (He.ga K (Str.ofString x))
  kit : ∀ x ∈ kn, ∀ c ∈ "Fault" :: kn, PySem.W.kitOne K (.ref (He.ga K (Str.ofString x))) (.ref (He.ga K (Str.ofString c))) = some (catches c x)
  kitV : ∀ x ∈ kn, PySem.W.kitOne K (.ref (He.ga K (Str.ofString x))) (.type "ValueError") = some true
  isc : ∀ x ∈ kn, ExcC K (He.ga K (Str.ofString x))
theorem RS.gone {K : PySem.W.Frag} {S own : List Addr} {ρ : List Slot} {σ : St} {H : Hp} (i : Nat) (h : RS K S ρ σ H own) (hi : ρ.set i .non = ρ) : RS K S ρ (σ.set i none) H own := by
  obtain ⟨⟨ads, r, nd, sub⟩, o, d⟩ := h
  obtain ⟨ads', r', sl⟩ := r.forget (o := none) i
  rw [hi] at r'
  exact ⟨⟨ads', r', nd.sublist sl, fun a ha => sub a (sl.subset ha)⟩, o, d⟩
theorem CtlP.unset {K : PySem.W.Frag} {S own : List Addr} {H : Hp} {D : Ends} {z : Ctl S₁ B R} (i : Nat) (hn : ∀ s, (n s).set i .non = n s) (hb : ∀ s, (b s).set i .non = b s) (h : CtlP K S own H D n b Z z) :
    CtlP K S own H { nx := fun σ' H' => D.nx (σ'.set i none) H', rt := D.rt, bk := fun σ' H' => D.bk (σ'.set i none) H', ct := fun σ' H' => D.ct (σ'.set i none) H' } n b Z z := by
  cases z with
  | nx s => exact fun σ' H' own' x r => h _ H' own' x (r.gone i (hn s))
  | rt r => exact h
  | bk s => exact fun σ' H' own' x r => h _ H' own' x (r.gone i (hb s))
  | ct s => exact fun σ' H' own' x r => h _ H' own' x (r.gone i (hb s))
/-- try: body / except c as x: suite -/
theorem x_try_as (i : Nat) {kn : List String} {c : String} {x : Str} {b₀ : Stmt} {suite : List Stmt} {np pos pos' : Pos} {m : Res (Ctl S₁ B R)} {h : Ex → Res (Ctl S₁ B R)} (C : CtxOk X W lv) (EK : ExmK X.K X.mg kn)
    (hb : ∀ (W' : WX) (pn : List (Addr × Obj)) (xe : Value → Shared → Prop), CtxOk (X.tr pn xe) W' lv → SC (X.tr pn xe) W' (some ρh) ρ body n b Z m)
    (hsu : ∀ (a dx : Addr) (e : Ex) (oe : Obj) (pn : List (Addr × Obj)), SuOk X a dx e oe → e.cls ∈ kn → catches c e.cls = true → SC (X.suite a ((a, oe) :: pn)) (fun _ _ _ _ => False) none (ρh.set i (.val XV ⟨a, dx, e⟩)) (b₀ :: suite) n b Z (h e))
    (hc : c ∈ "Fault" :: kn := by decide) (w : WkO ρh ρe := by first | exact True.intro | (repeat (first | exact Wk.nil | refine Wk.s ?_ | refine Wk.n ?_))) (hn : ∀ s, (n s).set i .non = n s := by intro s; first | rfl | cases s) (hbn : ∀ s, (b s).set i .non = b s := by intro s; first | rfl | cases s)
    (hi : X.N[i]? = some x := by rfl) (hln : X.env.kindOf x = some .local := by rfl) (hg : Gl X (Str.ofString c) := by rfl) (hdb : ((Str.ofString c) == ("__debug__" : Str)) = false := by decide) (hs : X.stack = X.env :: X.outer := by rfl) (hf : X.env.frame = some X.env.locals := by rfl) :
    C1 X W ρe ρ (.Try body [.ExceptHandler (some (.Name (Str.ofString c) np)) (some x) (b₀ :: suite) pos'] [] [] pos) n b Z (catchM kn [(c, h)] m) := by
  refine ⟨_, L2N.ps_try_as (tb := fun W' => semC X.K W' (some ρh) ρ n b Z m) (ts := fun a cls d D σ H => ∃ dx e, cls = .ref (He.ga X.K (Str.ofString e.cls)) ∧ d = some dx ∧ e.cls ∈ kn ∧ catches c e.cls = true ∧ semC X.K (fun _ _ _ _ => False) none (ρh.set i (.val XV ⟨a, dx, e⟩)) n b Z (h e) D σ H) hs hf C.nd hi hln ⟨hg, hdb, .inl (EK.gl c hc)⟩ C.tk
    (fun W' pn xe tk po => (hb W' pn xe (C.tr tk po)).sem) (fun a oe cls d pn z f => ⟨fun pins s σ H D I q => ?_⟩), fun S own σ H D rs hp => ⟨S, own, rs, ?_⟩⟩
  · obtain ⟨dx, e, rfl, rfl, hk, hcc, q⟩ := q
    exact (hsu a dx e oe pn ⟨z, f⟩ hk hcc).sem.run pins s σ H D I q
  · cases m with
    | ok z => exact hp
    | bad => exact hp
    | err e =>
      intro σ' H' own' cls d x' r q
      obtain ⟨rfl, dx, fs, rfl, q3, q4⟩ := q
      have hp' : Post (if kn.contains e.cls then pickM e [(c, h)] else .bad) (CtlP X.K S own H D n b Z) (ErrS X.K W S own H ρe) := hp
      cases hk : kn.contains e.cls with
      | false => rw [hk] at hp'; exact hp'.elim
      | true =>
        rw [hk] at hp'
        have hk' : e.cls ∈ kn := List.contains_iff_mem.mp hk
        refine ⟨catches c e.cls, EK.exm _ hk' _ hc, fun hcc a na => ⟨dx, e, rfl, rfl, hk', hcc, S, own', ?_, ?_⟩, fun hcc => ?_⟩
        · have rv : rp X.K (hide (S ++ own') H') (V.ref a) (XV.mk a dx e) := ⟨rfl, fs, q3, q4⟩
          exact (r _ rfl).set rv i
        · have hp2 : Post (if catches c e.cls then (h e).quiet else pickM e []) (CtlP X.K S own H D n b Z) (ErrS X.K W S own H ρe) := hp'
          rw [if_pos hcc] at hp2
          exact (hp2.quiet_to (E' := fun _ => False)).imp (fun z hz => (hz.mono x').unset i hn hbn) fun _ z => z.elim
        · have hp2 : Post (if catches c e.cls then (h e).quiet else pickM e []) (CtlP X.K S own H D n b Z) (ErrS X.K W S own H ρe) := hp'
          rw [if_neg (by rw [hcc]; exact Bool.false_ne_true)] at hp2
          have hp3 : ErrS X.K W S own H ρe e := hp2
          exact hp3 σ' H' own' _ _ x' (fun r' er => by subst er; exact (r _ rfl).wk w) ⟨rfl, dx, fs, rfl, q3, q4⟩

/-! several clauses without names -/
inductive HdJ (X : Cx) (kn : List String) (ρh : List Slot) (n : S₁ → List Slot) (b : B → List Slot) (Z : Rt R) : List ExceptHandler → List (String × (Ex → Res (Ctl S₁ B R))) → Prop
  | nil : HdJ X kn ρh n b Z [] []
  | cons {c : String} {b₀ : Stmt} {suite : List Stmt} {np pos' : Pos} {h : Ex → Res (Ctl S₁ B R)} {hds : List ExceptHandler} {r : List (String × (Ex → Res (Ctl S₁ B R)))} (hc : c ∈ "Fault" :: kn) (hg : Gl X (Str.ofString c)) (hdb : ((Str.ofString c) == ("__debug__" : Str)) = false)
      (hsu : ∀ (a dx : Addr) (e : Ex) (oe : Obj) (pn : List (Addr × Obj)), SuOk X a dx e oe → e.cls ∈ kn → catches c e.cls = true → SC (X.suite a ((a, oe) :: pn)) (fun _ _ _ _ => False) none ρh (b₀ :: suite) n b Z (h e)) (q : HdJ X kn ρh n b Z hds r) :
      HdJ X kn ρh n b Z (.ExceptHandler (some (.Name (Str.ofString c) np)) none (b₀ :: suite) pos' :: hds) ((c, h) :: r)
theorem h_cons {kn : List String} {c : String} {b₀ : Stmt} {suite : List Stmt} {np pos' : Pos} {h : Ex → Res (Ctl S₁ B R)} {hds : List ExceptHandler} {r : List (String × (Ex → Res (Ctl S₁ B R)))}
    (hsu : ∀ (a dx : Addr) (e : Ex) (oe : Obj) (pn : List (Addr × Obj)), SuOk X a dx e oe → e.cls ∈ kn → catches c e.cls = true → SC (X.suite a ((a, oe) :: pn)) (fun _ _ _ _ => False) none ρh (b₀ :: suite) n b Z (h e)) (q : HdJ X kn ρh n b Z hds r)
    (hc : c ∈ "Fault" :: kn := by decide) (hg : Gl X (Str.ofString c) := by rfl) (hdb : ((Str.ofString c) == ("__debug__" : Str)) = false := by decide) : HdJ X kn ρh n b Z (.ExceptHandler (some (.Name (Str.ofString c) np)) none (b₀ :: suite) pos' :: hds) ((c, h) :: r) :=
  .cons hc hg hdb hsu q
def lsem (K : PySem.W.Frag) (kn : List String) (ρh : List Slot) (n : S₁ → List Slot) (b : B → List Slot) (Z : Rt R) (hs : List (String × (Ex → Res (Ctl S₁ B R)))) : List (Value × (Addr → Value → Option Addr → TS)) :=
  hs.map fun p => (.ref (He.ga K (Str.ofString p.1)), fun _ cls d D σ H => ∃ dx e, cls = .ref (He.ga K (Str.ofString e.cls)) ∧ d = some dx ∧ e.cls ∈ kn ∧ catches p.1 e.cls = true ∧ semC K (fun _ _ _ _ => False) none ρh n b Z (p.2 e) D σ H)
theorem HdJ.hds {kn : List String} {hds : List ExceptHandler} {hs : List (String × (Ex → Res (Ctl S₁ B R)))} (EK : ExmK X.K X.mg kn) (j : HdJ X kn ρh n b Z hds hs) : L2N.HdsOk X hds (lsem X.K kn ρh n b Z hs) := by
  induction j with
  | nil => exact .nil
  | @cons c b₀ suite np pos' h hds r hc hg hdb hsu _ ih =>
    refine .cons ⟨hg, hdb, .inl (EK.gl c hc)⟩ (fun a oe cls d pn z f => ⟨fun pins s σ H D I q => ?_⟩) ih
    obtain ⟨dx, e, rfl, rfl, hk, hcc, q⟩ := q
    exact (hsu a dx e oe pn ⟨z, f⟩ hk hcc).sem.run pins s σ H D I q
theorem x_try {kn : List String} {h₀ : ExceptHandler} {hds : List ExceptHandler} {hs : List (String × (Ex → Res (Ctl S₁ B R)))} {pos : Pos} {m : Res (Ctl S₁ B R)} (C : CtxOk X W lv) (EK : ExmK X.K X.mg kn)
    (hb : ∀ (W' : WX) (pn : List (Addr × Obj)) (xe : Value → Shared → Prop), CtxOk (X.tr pn xe) W' lv → SC (X.tr pn xe) W' (some ρh) ρ body n b Z m)
    (j : HdJ X kn ρh n b Z (h₀ :: hds) hs) (w : WkO ρh ρe := by first | exact True.intro | (repeat (first | exact Wk.nil | refine Wk.s ?_ | refine Wk.n ?_))) (hst : X.stack = X.env :: X.outer := by rfl) (hf : X.env.frame = some X.env.locals := by rfl) :
    C1 X W ρe ρ (.Try body (h₀ :: hds) [] [] pos) n b Z (catchM kn hs m) := by
  refine ⟨_, L2N.ps_try_many (tb := fun W' => semC X.K W' (some ρh) ρ n b Z m) hst hf C.tk (fun W' pn xe tk po => (hb W' pn xe (C.tr tk po)).sem) (j.hds EK), fun S own σ H D rs hp => ⟨S, own, rs, ?_⟩⟩
  cases m with
  | ok z => exact hp
  | bad => exact hp
  | err e =>
    intro σ' H' own' cls d x' r q
    have q0 := q
    obtain ⟨rfl, dx, fs, rfl, q3, q4⟩ := q0
    have hp' : Post (if kn.contains e.cls then pickM e hs else .bad) (CtlP X.K S own H D n b Z) (ErrS X.K W S own H ρe) := hp
    cases hk : kn.contains e.cls with
    | false => rw [hk] at hp'; exact hp'.elim
    | true =>
      rw [hk] at hp'
      have hk' : e.cls ∈ kn := List.contains_iff_mem.mp hk
      have hp2 : Post (pickM e hs) (CtlP X.K S own H D n b Z) (ErrS X.K W S own H ρe) := hp'
      have key : ∀ {hds : List ExceptHandler} {hs : List (String × (Ex → Res (Ctl S₁ B R)))}, HdJ X kn ρh n b Z hds hs → Post (pickM e hs) (CtlP X.K S own H D n b Z) (ErrS X.K W S own H ρe) → wMany X.K W D (lsem X.K kn ρh n b Z hs) (.ref (He.ga X.K (Str.ofString e.cls))) (some dx) σ' H' := by
        intro hds hs j hp
        induction j with
        | nil =>
          have hp3 : ErrS X.K W S own H ρe e := hp
          exact hp3 σ' H' own' _ _ x' (fun r' er => by subst er; exact (r _ rfl).wk w) ⟨rfl, dx, fs, rfl, q3, q4⟩
        | @cons c b₀ suite np pos' h hds r0 hc hg hdb hsu _ ih =>
          have hp2 : Post (if catches c e.cls then (h e).quiet else pickM e r0) (CtlP X.K S own H D n b Z) (ErrS X.K W S own H ρe) := hp
          refine ⟨catches c e.cls, EK.exm _ hk' _ hc, fun hcc a na => ⟨dx, e, rfl, rfl, hk', hcc, S, own', r _ rfl, ?_⟩, fun hcc => ?_⟩
          · rw [if_pos hcc] at hp2
            exact (hp2.quiet_to (E' := fun _ => False)).imp (fun z hz => hz.mono x') fun _ z => z.elim
          · rw [if_neg (by rw [hcc]; exact Bool.false_ne_true)] at hp2
            exact ih hp2
      exact key j hp2
/-! isinstance of a caught error that has its dict -/
section
open PySem.W PyProof.Rows
theorem find_cls {K : PySem.W.Frag} {C : Addr} {od : Option Obj} {name : Str} {a g : Value} (hc : (clsIn K C).isSome = true) (ha : findIn K (.ref C) name = some (some a)) (hg : specialIn K a "__get__" = some (some g)) (ht : takesIn K a = some true) : findObj K C od name = some (.bind g a) := by
  rcases Option.isSome_iff_exists.mp hc with ⟨cd, q⟩
  unfold findObj
  rw [q, Option.bind_some, ha, Option.bind_some]
  simp [hg, ht]
theorem cls_of_err {prog : Program} {w : World} {A : Around} {E : Value → Shared → Prop} {s : Shared} {K : PySem.W.Frag} {x D : Addr} {ox : Obj} {od : Option Obj} {Q : Option Value → Shared → Prop} (T : ExcC K D) (X : K.In s.heap) (I : PySem.W.InstAt s.heap x ox D od)
    (h : Q (some (.ref D)) { s with toks := s.toks + 1 }) : wpAny (model prog w) A (getAttr? (.ref x) "__class__") Q E s := by
  have fnd : findObj K D od "__class__" = some (.bind (.builtin "getset_descriptor.__get__") (.builtin "object.__class__")) := find_cls (by rcases any_some T.hd with ⟨cd, hc, _⟩; rw [hc]; rfl) T.ha T.hn T.ht
  rcases s with ⟨hp, g, d, t, os⟩
  have l0 := I.type (M := model prog w)
  have l1 := looks_findIn (M := model prog w) X T.hg
  have l2 := looks_findIn (M := model prog w) X T.hk
  have l3 := looks_find (M := model prog w) X I fnd
  have isE : PySem.W.Looks (model prog w) hp (isInstance (.ref x) (.type "BaseException")) true := l0.andThen (looks_subIn X T.hs)
  have n0 : (false && onTheHeap (Value.builtin "BaseException.__getattribute__")) = false := rfl
  have n2 : (Value.builtin "BaseException.__getattribute__" == Value.builtin "object.__getattribute__") = false := by decide +kernel
  have n1 : (onTheHeap (Value.ref D) && Value.builtin "BaseException.__getattribute__" == Value.builtin "object.__getattribute__") = false := by rw [n2]; rfl
  unfold getAttr? getAttrBy? getAttrBy
  refine wpAny_bind (wpAny_mkText (wpAny_bind (wpAny_attempt (wpAny_holding (wpAny_bind (l0.at
    (wpAny_bind (l1.at ?_))))))))
  show wpAny _ _ (if (onTheHeap (Value.ref D) && Value.builtin "BaseException.__getattribute__" == Value.builtin "object.__getattribute__") = true then _ else _) _ _ _
  rw [n1, if_neg Bool.false_ne_true]
  unfold getAttrByItsOwn hookBefore
  refine wpAny_bind ?_
  rw [if_pos (show onTheHeap (Value.ref D) = true from rfl)]
  refine l2.at (wpAny_bind (wpAny_attempt
    (wpAny_holding ?_)))
  unfold callGetattribute
  rw [n0, if_neg Bool.false_ne_true]
  unfold boundAndCalled
  rw [PySem.F.excAttr_ValueError.ga.bind (.ref x)]
  refine wpAny_bind
    (wpAny_pure ?_)
  show wpAny _ _ (call (.builtin "BaseException.__getattribute__") [.ref x, .str "__class__" t]) _ _ _
  refine wpAny_call (codeAny_call_builtin PySem.F.excAttr_ValueError.ga.plain PySem.F.entry_bexc_ga (@check_slot (model prog w) _ _ ⟨hp, g, d, t + 1, os⟩ "BaseException.__getattribute__" "BaseException" "__getattribute__" (.ref x) [.str "__class__" t] [] _ (by decide +kernel) (by decide +kernel) isE (PySem.F.args_bexc_ga (.ref x) (.str "__class__" t)) ?_))
  unfold Builtin.«object.__getattribute__»
  refine wpAny_bind (wpAny_of_eq (a := ((Value.ref x : Value), [Value.str "__class__" t])) (by first | rfl | (simp only [slotArgs]; rfl)) ?_)
  refine wpAny_bind (wpAny_pure
    (wpAny_bind (l0.at (wpAny_bind (l3.at ?_)))))
  show wpAny _ _ (holding [Value.builtin "object.__class__"] (call (.builtin "getset_descriptor.__get__") [.builtin "object.__class__", .ref x, .ref D]) >>= ret) _ _ _
  refine wpAny_bind (wpAny_holding ?_)
  refine wpAny_call (class_get (s := ⟨hp, g, d, t + 1, os⟩) (ox := ox) (od := od) X I T.hm ?_)
  refine wpAny_pure ?_
  show wpAny _ _ (handedOut (.ref D)) _ _ _
  rw [handedOut_of (v := .ref D) rfl]
  first
    | exact wpAny_pure h
    | exact wpAny_pure (wpAny_pure h)
    | exact wpAny_pure (wpAny_bind (wpAny_pure (wpAny_pure h)))
theorem cls_entry {K : PySem.W.Frag} {D : Addr} (T : ExcC K D) : ∃ c d cd sl, K.lookup D = some ⟨c, d, .cls cd, sl⟩ := by
  rcases any_some T.hd with ⟨cdD, q, _⟩
  unfold clsIn at q
  split at q
  · rename_i c d cd sl ho
    exact ⟨c, d, cd, sl, ho⟩
  · cases q
theorem kit_err {K : PySem.W.Frag} {x D : Addr} {ox : Obj} (T : ExcC K D) : KitX K (.ref x) (.ref D) (fun h => ∃ od, PySem.W.InstAt h x ox D od) where
  ty := fun _ _ _ ⟨_, I⟩ => I.type
  it := fun _ _ X _ => by
    rcases cls_entry T with ⟨c, d, cd, sl, q⟩
    intro A' Q' E' s' k z
    unfold isType loadHead
    exact wpAny_bind (wpAny_loadPart (k _ _ (X _ _ q)) (wpAny_pure z))
  ne := fun h tp dd its n sl X htp => by
    refine Bool.eq_false_iff.mpr fun z => ?_
    have e : D = tp := Value.ref.inj (beq_iff_eq.mp z)
    subst e
    rcases cls_entry T with ⟨c, d, cd, sl', q⟩
    cases (X _ _ q).symm.trans htp
  ca := fun X ⟨_, I⟩ k => cls_of_err T X I k
end
/-- isinstance(e, c), e the caught error of class D, its dict at dx -/
def rIsD (K : PySem.W.Frag) (D a dx : Addr) : List V → Hp → VK → Prop := fun xs H Q => ∃ (c : V) (cv : Value) (b : Bool) (fs : List (Str × V)), xs = [.ref a, c] ∧ (∀ u, RelV c u → u = cv) ∧ H dx = some (.xd fs) ∧ PySem.W.kitOne K (.ref D) cv = some b ∧ Q (.bl b) H
theorem call_isD {a dx : Addr} {e : Ex} {oe : Obj} {pn : List (Addr × Obj)} (T : ExcC X.K (He.ga X.K (Str.ofString e.cls))) (U : SuOk X a dx e oe) : CallR (X.suite a ((a, oe) :: pn)) (.builtin "isinstance") (rIsD X.K (He.ga X.K (Str.ofString e.cls)) a dx) := by
  intro pins s σ H xs us Q I r h
  rcases h with ⟨c, cv, b, fs, rfl, hcv, hd, q1, q⟩
  cases r with
  | cons rx rr =>
    cases rr with
    | cons rt rr =>
      cases rr
      cases rx
      have ec := hcv _ rt
      subst ec
      have at1 := (I.pin (a, oe) (List.mem_append.mpr (.inl List.mem_cons_self))).1
      rcases U.f with ⟨vs, hv⟩
      have hx : ObjOk X.prog X.w H s.heap dx (.xd fs) := I.hok dx _ hd
      rcases hx with ⟨mA, ⟨od, es, ep, ho, hr⟩, _⟩
      have J : PySem.W.InstAt s.heap a oe (He.ga X.K (Str.ofString e.cls)) (some od) := by
        refine ⟨at1, U.z.1, ?_, ?_⟩
        · unfold PySem.W.notCls
          rw [hv]
        · rw [U.z.2.1]
          exact ho
      exact PySem.W.kia_one (kit_err T) I.kIn ⟨_, J⟩ q1 (fun z => nomatch z) fun tk => ⟨.bl b, H, I.kept (t' := tk) fun _ _ z => z, rfl, q⟩
/-! in the suite: the error's fields, isinstance of it -/
theorem e_xfld (i : Nat) {a dx : Addr} {e : Ex} {oe : Obj} {pn : List (Addr × Obj)} {W' : WX} {g : Bool} {ρ : List Slot} {kn : List String} {f : String} {x : Str} {pos p2 : Pos} (EK : ExmK X.K X.mg kn) (U : SuOk X a dx e oe) (hk : e.cls ∈ kn)
    (hno : PySem.W.findIn X.K (.ref (He.ga X.K (Str.ofString e.cls))) (Str.ofString f) = some none) (hr : ρ[i]? = some (.val XV ⟨a, dx, e⟩) := by rfl)
    (hN : X.N[i]? = some x := by rfl) (hv : Vis X.env.scope x := by first | exact Or.inl rfl | exact Or.inr (Or.inl rfl) | exact Or.inr (Or.inr rfl)) (hd : (x == ("__debug__" : Str)) = false := by decide) (hcd : (x == ("__classdict__" : Str)) = false := by decide)
    (hbase : attributeBase (.Name x p2) (Str.ofString f) X.env (eval (.Name x p2) X.env) = eval (.Name x p2) X.env := by rfl) : EG (X.suite a ((a, oe) :: pn)) W' g ρ (.Attribute (.Name x p2) (Str.ofString f) pos) (fldD e f) := by
  refine ⟨_, pe_xf (EK.xf _ hk) hno U.z.zc U.f (pe_var (X := X.suite a ((a, oe) :: pn)) hN hv hd hcd) hbase, fun S own σ H Q rs h => ?_⟩
  obtain ⟨ads, r, _, _⟩ := rs.rs
  obtain ⟨u, eu, q⟩ := r.val_at hr
  obtain ⟨rfl, fs, q3, q4⟩ := q
  refine ⟨_, eu, rfl, rfl, dx, fs, ?_⟩
  have key : ∀ {fs : List (Str × V)} {es : List (String × PyData)}, Paired (fun (p : Str × V) (q : String × PyData) => p.1 = Str.ofString q.1 ∧ Dp X.K (hide (S ++ own) H) p.2 q.2) fs es → ∀ d, es.lookup f = some d → ∃ v, fs.lookup (Str.ofString f) = some v ∧ Dp X.K (hide (S ++ own) H) v d := by
    intro fs es h
    induction h with
    | nil => intro d z; cases z
    | @cons p q fs es hpq _ ih =>
      intro d z
      obtain ⟨h1, h2⟩ := hpq
      by_cases c : f = q.1
      · subst c
        have z' : List.lookup q.1 ((q.1, q.2) :: es) = some d := z
        simp [List.lookup] at z'
        subst z'
        exact ⟨p.2, by rw [show p = (p.1, p.2) from rfl, h1]; simp [List.lookup], h2⟩
      · have c1 : (f == q.1) = false := by simpa using c
        have z' : List.lookup f ((q.1, q.2) :: es) = some d := z
        rw [List.lookup, c1] at z'
        obtain ⟨v, e1, e2⟩ := ih d z'
        refine ⟨v, ?_, e2⟩
        have c2 : (Str.ofString f == p.1) = false := by
          rw [h1]
          have ne : Str.ofString f ≠ Str.ofString q.1 := fun z => c (ofString_inj z)
          simpa using ne
        show List.lookup (Str.ofString f) ((p.1, p.2) :: fs) = _
        rw [List.lookup, c2]
        exact e1
  unfold fldD at h
  cases hl : e.fs.lookup f with
  | none => rw [hl] at h; exact h.elim
  | some d =>
    rw [hl] at h
    obtain ⟨v, e1, e2⟩ := key q4 d hl
    refine ⟨v, rfl, hide_sub _ _ q3, e1, h H v (Same.refl H) (Rp.mono (T := PD) (hide_mono reg_sub) e2)⟩
theorem e_isx (i : Nat) {a dx : Addr} {e : Ex} {oe : Obj} {pn : List (Addr × Obj)} {W' : WX} {g : Bool} {ρ : List Slot} {kn : List String} {c : String} {x : Str} {p p2 p3 pos : Pos} (EK : ExmK X.K X.mg kn) (U : SuOk X a dx e oe) (hk : e.cls ∈ kn) (hm : X.mg "isinstance" = none)
    (hr : ρ[i]? = some (.val XV ⟨a, dx, e⟩) := by rfl) (hc : c ∈ "Fault" :: kn := by decide)
    (hN : X.N[i]? = some x := by rfl) (hv : Vis X.env.scope x := by first | exact Or.inl rfl | exact Or.inr (Or.inl rfl) | exact Or.inr (Or.inr rfl)) (hd : (x == ("__debug__" : Str)) = false := by decide) (hcd : (x == ("__classdict__" : Str)) = false := by decide)
    (hg : Gl X "isinstance" := by rfl) (hg2 : Gl X (Str.ofString c) := by rfl) (hdb : ((Str.ofString c) == ("__debug__" : Str)) = false := by decide)
    (he : starEach [.Name x p2, .Name (Str.ofString c) p3] X.env = (false, eval (.Name x p2) X.env) :: starEach [.Name (Str.ofString c) p3] X.env := by rfl) (he2 : starEach [.Name (Str.ofString c) p3] X.env = (false, eval (.Name (Str.ofString c) p3) X.env) :: starEach [] X.env := by rfl)
    (hpl : (backTo pos (starEach [.Name (Str.ofString c) p3] X.env)).any (·.1) = false := by rfl) :
    EG (X.suite a ((a, oe) :: pn)) W' g ρ (.Call (.Name "isinstance" p) [.Name x p2, .Name (Str.ofString c) p3] [] pos) (.ok (catches c e.cls)) := by
  refine ⟨_, pe_callB (X := X.suite a ((a, oe) :: pn)) (call_isD (EK.isc _ hk) U) hg hm (by decide +kernel) (pa_cons (pe_var (X := X.suite a ((a, oe) :: pn)) hN hv hd hcd) (pa_cons (pe_glob (X := X.suite a ((a, oe) :: pn)) (v := .ref (He.ga X.K (Str.ofString c))) hg2 (EK.gl c hc) rfl hdb) pa_nil he2) he) (by decide) (by decide) he hpl, fun S own σ H Q rs h => ?_⟩
  obtain ⟨ads, r, _, _⟩ := rs.rs
  obtain ⟨u, eu, q⟩ := r.val_at hr
  obtain ⟨rfl, fs, q3, q4⟩ := q
  exact ⟨_, eu, _, _, _, fs, rfl, fun u z => z, hide_sub _ _ q3, EK.kit _ hk c hc, h H _ (Same.refl H) rfl⟩
theorem e_isV (i : Nat) {a dx : Addr} {e : Ex} {oe : Obj} {pn : List (Addr × Obj)} {W' : WX} {g : Bool} {ρ : List Slot} {kn : List String} {x : Str} {p p2 p3 pos : Pos} (EK : ExmK X.K X.mg kn) (U : SuOk X a dx e oe) (hk : e.cls ∈ kn) (hm : X.mg "isinstance" = none) (hmV : X.mg "ValueError" = none)
    (hr : ρ[i]? = some (.val XV ⟨a, dx, e⟩) := by rfl)
    (hN : X.N[i]? = some x := by rfl) (hv : Vis X.env.scope x := by first | exact Or.inl rfl | exact Or.inr (Or.inl rfl) | exact Or.inr (Or.inr rfl)) (hd : (x == ("__debug__" : Str)) = false := by decide) (hcd : (x == ("__classdict__" : Str)) = false := by decide)
    (hg : Gl X "isinstance" := by rfl) (hg2 : Gl X "ValueError" := by rfl)
    (he : starEach [.Name x p2, .Name "ValueError" p3] X.env = (false, eval (.Name x p2) X.env) :: starEach [.Name "ValueError" p3] X.env := by rfl) (he2 : starEach [.Name "ValueError" p3] X.env = (false, eval (.Name "ValueError" p3) X.env) :: starEach [] X.env := by rfl)
    (hpl : (backTo pos (starEach [.Name "ValueError" p3] X.env)).any (·.1) = false := by rfl) :
    EG (X.suite a ((a, oe) :: pn)) W' g ρ (.Call (.Name "isinstance" p) [.Name x p2, .Name "ValueError" p3] [] pos) (.ok true) := by
  refine ⟨_, pe_callB (X := X.suite a ((a, oe) :: pn)) (call_isD (EK.isc _ hk) U) hg hm (by decide +kernel) (pa_cons (pe_var (X := X.suite a ((a, oe) :: pn)) hN hv hd hcd) (pa_cons (pe_bltn (X := X.suite a ((a, oe) :: pn)) (v := .ty "ValueError") hg2 hmV PyProof.Rows.Boot.«ValueError» rfl) pa_nil he2) he) (by decide) (by decide) he hpl, fun S own σ H Q rs h => ?_⟩
  obtain ⟨ads, r, _, _⟩ := rs.rs
  obtain ⟨u, eu, q⟩ := r.val_at hr
  obtain ⟨rfl, fs, q3, q4⟩ := q
  exact ⟨_, eu, _, _, _, fs, rfl, fun u z => z, hide_sub _ _ q3, EK.kitV _ hk, h H _ (Same.refl H) rfl⟩
end
end Py

set_option Elab.async false
set_option linter.all false
set_option maxRecDepth 100000
set_option maxHeartbeats 4000000
/-! Py, part X4: defs called in an except suite; the facts of the classes. -/
namespace Py
open PySem PySem.Spec L2
open Rp (rp)
theorem quiet_any {α : Type} {m : Res α} {Q Q' : α → Prop} {E E' : Ex → Prop} (h : Post m.quiet Q E) (k : ∀ a, Q a → Q' a) : Post m.quiet Q' E' := by
  cases m with
  | ok a => exact k a h
  | err e => exact h.elim
  | bad => exact h.elim
structure CtxH (X : Cx) (lv : Nat) : Prop where
  nd : X.N.Nodup
  hot : L2H.HotC X
  room : L2H.RoomH lv X.A
structure FHk (P : Program) (w : World) (K : PySem.W.Frag) (mg : Str → Option Value) (base : Heap) (name : Str) (k : Nat) (sp : Sp) : Prop where
  ok : ∃ fd ps, L2H.FnH P w K mg base (L2N.CX P w) k (He.ga K name) fd ps sp ∧ Binds K fd ps []
  kp : PySem.W.keepIn K (.ref (He.ga K name)) = true
  gl : mg name = some (.ref (He.ga K name))
abbrev fcxh (P : Program) (w : World) (K : PySem.W.Frag) (mg : Str → Option Value) (base : Heap) (N : List Str) (qual : Str) (scope : Scope) (f : Addr) (cdv : Value) (A : Around) (outer : List Env) (s : Shared) (H : Hp) (E : XK) (p : Addr × Obj) : Cx :=
  L2H.cxH (L2N.CX P w) P w K mg base N qual scope f cdv A outer s H E p
section
variable {P : Program} {w : World} {K : PySem.W.Frag} {mg : Str → Option Value} {base : Heap} {x qual : Str} {params : Arguments} {body : List Stmt} {scope : Scope} {kws : List (Str × V)} {fd : FuncData} {N ps : List Str} {k : Nat} {A : Type} {as : A → List AV}
theorem fokh_data {R : Type} [Rp R] {f : A → Res R} {ρ0 : A → List Slot} (F : FunD K x qual params body scope [] kws (He.ga K x) fd) (hgl : mg x = some (.ref (He.ga K x))) (S : FnScope N ps scope) (hb : Binds K fd ps []) (hl : ∀ u, (as u).length = ps.length := by intro _; rfl)
    (h0 : ∀ u, ρ0 u = (as u).map AV.slot ++ List.replicate (N.length - ps.length) .non := by intro _; rfl)
    (d : ∀ cdv A outer s H E p, CtxH (fcxh P w K mg base N qual scope (He.ga K x) cdv A outer s H E p) k → ∀ u, SR (fcxh P w K mg base N qual scope (He.ga K x) cdv A outer s H E p) (fun _ _ _ _ => False) none (ρ0 u) body (retD R) (f u)) :
    FHk P w K mg base x (k + 1) (spOf K as fun u => (f u).quiet) := by
  have lenq : ∀ vs H Q E, spOf K as (fun u => (f u).quiet) vs H Q E → vs.length = ps.length := fun vs H Q E h => by
    obtain ⟨S', u, _, r, _⟩ := h
    rw [r.length, hl]
  obtain ⟨oc, od, dV, kV, doc, pm, an, cdv, ct, osl, rfl, lk, hcd, _, _⟩ := F.ex
  refine ⟨⟨_, ps, L2H.fn_ofH lk hcd S lenq (fun A outer s H vs Q E p hot hr h => ?_), hb⟩, F.kp, hgl⟩
  obtain ⟨S', u, hd, r, hp⟩ := h
  obtain ⟨t, pt, q⟩ := (d cdv A outer s H E p ⟨S.nd, ⟨p, hot, List.mem_singleton.mpr rfl⟩, hr⟩ u).ex
  refine ⟨t, pt, q S' [] _ H _ ?_ ((hp.quiet_to (E' := fun _ => False)).imp (fun y hy v σ' H' own' x' _ z => hy H' v x'.nil_same (Rp.mono (hide_mono fun b hb => List.mem_append_left _ hb) z)) fun e he => he.elim)⟩
  rw [h0, ← hl u, ← r.length]
  exact rs_start r hd
end
section
variable {X : Cx} {W : WX} {g : Bool} {ρ : List Slot} {A R : Type} [Rp R] {a : Expr} {pos : Pos} {lv : Nat}
theorem passH {σ : St} (hxe : True) : PassesAt (L2N.CX X.prog X.w) X σ (fun _ _ _ => False) := fun _ _ _ _ _ _ q => by
  rcases q with ⟨_, _, _, _, _, _, _, _, _, _, _, _, z⟩
  exact z.elim
theorem e_callh {x : Str} {p : Pos} {es : List Expr} {as : A → List AV} {f : A → Res R} {m : Res R} {k : Nat} (C : CtxH X lv) (F : FHk X.prog X.w X.K X.mg X.base x k (spOf X.K as fun u => (f u).quiet)) (ha : AJ X W true ρ (a :: es) as (fun u => (f u).quiet) m) (hk : k ≤ lv := by decide)
    (hg : Gl X x := by rfl) (hdb : (x == ("__debug__" : Str)) = false := by decide) (he : starEach (a :: es) X.env = (false, eval a X.env) :: starEach es X.env := by rfl) (hpl : (backTo pos (starEach es X.env)).any (·.1) = false := by rfl) :
    EG X W true ρ (.Call (.Name x p) (a :: es) [] pos) m := by
  obtain ⟨t, pa, qa⟩ := ha.ex
  obtain ⟨fd, ps, F1, F2⟩ := F.ok
  refine ⟨_, L2H.pe_callH (E := fun _ _ _ _ => False) F1 (C.room.mono hk) C.hot hg F.gl F.kp F2 (fun σ => passH trivial) pa hdb he hpl, fun S own σ H Q rs h => ?_⟩
  refine qa S own σ H _ _ _ rs (fun e z => z) h fun x vs H' s r hx => ⟨S ++ own, x, (rs.mono s).dom, r, ?_⟩
  exact quiet_any hx fun y hy H2 v s2 r2 => hy H2 v (s.trans s2) r2
/-- a suite's context -/
theorem CtxOk.suite {a dx : Addr} {e : Ex} {oe : Obj} {pn : List (Addr × Obj)} (C : CtxOk X W lv) (U : SuOk X a dx e oe) : CtxH (X.suite a ((a, oe) :: pn)) lv := by
  obtain ⟨vs, hv⟩ := U.f
  exact ⟨C.nd, ⟨(a, oe), ⟨rfl, vs, hv, U.z.2.2 vs hv⟩, List.mem_cons_self⟩, ⟨C.room.dp, C.room.un⟩⟩
end
/-! ### the facts -/
def iscB (K : PySem.W.Frag) (D : Addr) : Bool :=
  decide (PySem.W.findIn K (.ref D) "__getattribute__" = some (some (.builtin "BaseException.__getattribute__"))) && (decide (PySem.W.findIn K (.ref D) "__getattr__" = some none) && (decide (PySem.W.subIn K (.ref D) (.type "BaseException") = some true) && (PySem.W.hasDictIn K D &&
  (decide (PySem.W.findIn K (.ref D) "__class__" = some (some (.builtin "object.__class__"))) && (decide (PySem.W.specialIn K (.builtin "object.__class__") "__get__" = some (some (.builtin "getset_descriptor.__get__"))) && (decide (PySem.W.takesIn K (.builtin "object.__class__") = some true) &&
  decide (PySem.W.mroIn K D (.type "object") = some true)))))))
theorem iscB_ok {K : PySem.W.Frag} {D : Addr} (h : iscB K D = true) : ExcC K D := by
  obtain ⟨h1, h⟩ := He.ba h
  obtain ⟨h2, h⟩ := He.ba h
  obtain ⟨h3, h⟩ := He.ba h
  obtain ⟨h4, h⟩ := He.ba h
  obtain ⟨h5, h⟩ := He.ba h
  obtain ⟨h6, h⟩ := He.ba h
  obtain ⟨h7, h8⟩ := He.ba h
  exact ⟨of_decide_eq_true h1, of_decide_eq_true h2, of_decide_eq_true h3, h4, of_decide_eq_true h5, of_decide_eq_true h6, of_decide_eq_true h7, of_decide_eq_true h8⟩
def exmB (K : PySem.W.Frag) (kn : List String) : Bool :=
  kn.all fun x => (("Fault" :: kn).all fun c => decide (PySem.W.exmOne K (.ref (He.ga K (Str.ofString x))) (.ref (He.ga K (Str.ofString c))) = some (catches c x)) && decide (PySem.W.kitOne K (.ref (He.ga K (Str.ofString x))) (.ref (He.ga K (Str.ofString c))) = some (catches c x))) &&
    (xfB K (He.ga K (Str.ofString x)) && (decide (PySem.W.kitOne K (.ref (He.ga K (Str.ofString x))) (.type "ValueError") = some true) && iscB K (He.ga K (Str.ofString x))))
theorem exmB_ok {K : PySem.W.Frag} {mg : Str → Option Value} {kn : List String} (h : exmB K kn = true) (hg : ∀ c ∈ "Fault" :: kn, mg (Str.ofString c) = some (.ref (He.ga K (Str.ofString c)))) : ExmK K mg kn := by
  have h' := List.all_eq_true.mp h
  refine ⟨fun x hx c hc => ?_, hg, fun x hx => ?_, fun x hx c hc => ?_, fun x hx => ?_, fun x hx => ?_⟩
  · exact of_decide_eq_true (He.ba (List.all_eq_true.mp (He.ba (h' x hx)).1 c hc)).1
  · exact xfB_ok (He.ba (He.ba (h' x hx)).2).1
  · exact of_decide_eq_true (He.ba (List.all_eq_true.mp (He.ba (h' x hx)).1 c hc)).2
  · exact of_decide_eq_true (He.ba (He.ba (He.ba (h' x hx)).2).2).1
  · exact iscB_ok (He.ba (He.ba (He.ba (h' x hx)).2).2).2
end Py

set_option Elab.async false
set_option linter.all false
set_option maxRecDepth 100000
set_option maxHeartbeats 4000000
/-! Py, part S: texts, chains, membership. -/
namespace Py
open PySem PySem.Spec L2
open Rp (rp)
def catS (x y : Str) : Res Str := guardR (decide (x.length + y.length ≤ sizeLine)) (.ok (x ++ y))
def inS (x z : Str) : Res Bool := match x.cps.toList with
  | [c] => .ok (decide (c ∈ z.cps.toList))
  | _ => .bad
def mulS (x : Str) (n : Int) : Res Str := guardR (decide (1 < n) && (decide (n ≤ 1048576) && (decide (0 < x.length) && decide (x.length * n.toNat ≤ 1048576)))) (.ok ⟨(List.replicate n.toNat x.cps).foldl (· ++ ·) #[]⟩)
def joinS (a : Str) (ys : List Str) : Res Str := guardR (decide ((ys.map (·.length)).sum + ys.length * a.length ≤ 16777216)) (.ok (Txt.join a ys))
def intS (a : Str) : Res Int := match PySem.intText? a with
  | some n => guardR (decide (a.length ≤ 640)) (.ok n)
  | none => .bad
theorem one_sign {x : Str} {c : Nat} (h : x.cps.toList = [c]) : x = ⟨#[c]⟩ := by
  obtain ⟨⟨l⟩⟩ := x
  have e : l = [c] := h
  rw [e]
section
variable {X : Cx} {W : WX} {g : Bool} {ρ : List Slot} {a b c e : Expr} {pos : Pos} {lv : Nat}
theorem e_catS {ma mb : Res Str} (ha : EG X W true ρ a ma) (hb : EG X W true ρ b mb) : EG X W g ρ (.BinOp a .Add b pos) (ma.bind fun x => mb.bind fun y => catS x y) :=
  e_binR (f := catS) op_add_str ha hb (fun _ _ H x y v u Q r1 r2 h => ⟨x, y, r1, r2, of_decide_eq_true h.guard.1, h.guard.2 _ rfl⟩) (fun _ _ e => guard_ne e)
theorem op_mulS : OpR X (binaryOp .Mult) (fun x y H Q => ∃ i n, x = .str i ∧ y = .int n ∧ (1 < n ∧ n ≤ 1048576 ∧ 0 < i.length ∧ i.length * n.toNat ≤ 1048576) ∧ Q (.str ⟨(List.replicate n.toNat i.cps).foldl (· ++ ·) #[]⟩) H) := by
  intro pins s σ H x y v u Q I rx ry h
  obtain ⟨i, n, rfl, rfl, ⟨h1, h2, h3, h4⟩, q⟩ := h
  obtain ⟨t, rfl⟩ := rx
  obtain ⟨t', rfl⟩ := ry
  have nn : ¬ (n == 1 || i.length == 0) = true := by
    simp only [Bool.or_eq_true, beq_iff_eq]
    omega
  refine P.mul_str ?_ (fun _ _ => ?_) (fun _ _ => ?_) ?_
  · rw [decide_eq_false (show ¬ n < -(2 ^ 63 : Int) by omega), decide_eq_false (show ¬ n ≥ 2 ^ 63 by omega)]
    rfl
  · have l1 : i.length ≤ 1048576 := Nat.le_trans (Nat.le_mul_of_pos_right _ (by omega)) h4
    have l2 : (8796093022207 : Int) ≤ (2 ^ 63 - 1) / n := (Int.le_ediv_iff_mul_le (by omega)).mpr (by omega)
    omega
  · exact decide_eq_false (by rw [sizeLine_eq]; omega)
  · rw [if_neg (by omega), if_neg nn]
    refine ⟨fits_reps (decide_eq_false (by rw [sizeLine_eq]; omega)), .str _, H, I.tok _, ⟨_, rfl⟩, q⟩
theorem e_mulS {ma : Res Str} {mb : Res Int} (ha : EG X W true ρ a ma) (hb : EG X W true ρ b mb) : EG X W g ρ (.BinOp a .Mult b pos) (ma.bind fun x => mb.bind fun y => mulS x y) :=
  e_binR (f := mulS) op_mulS ha hb (fun _ _ H x y v u Q r1 r2 h => by
    obtain ⟨h1, h2⟩ := h.guard
    simp only [Bool.and_eq_true, decide_eq_true_eq] at h1
    exact ⟨x, y, r1, r2, h1, h2 _ rfl⟩) (fun _ _ e => guard_ne e)
theorem inS_ne (x z : Str) (e : Ex) : inS x z ≠ .err e := by
  unfold inS
  split <;> intro h <;> cases h
theorem e_inS {ma mb : Res Str} (ha : EG X W true ρ a ma) (hb : EG X W true ρ b mb) (hm : behindInMarks .In b = false := by rfl) : CJ X W ρ .In a b (ma.bind fun x => mb.bind fun y => inS x y) :=
  e_cmpR (f := inS) op_in_sign hm ha hb (fun _ _ H x y v u Q r1 r2 h => by
    unfold inS at h
    split at h
    · rename_i c hc
      exact ⟨c, y, by rw [r1, one_sign hc], r2, h⟩
    · exact h.elim)
theorem e_ninS {ma mb : Res Str} (ha : EG X W true ρ a ma) (hb : EG X W true ρ b mb) (hm : behindInMarks .NotIn b = false := by rfl) : CJ X W ρ .NotIn a b (ma.bind fun x => mb.bind fun y => (inS x y).bind fun k => .ok (!k)) :=
  e_cmpR (f := fun x y => (inS x y).bind fun k => .ok (!k)) op_notIn_sign hm ha hb (fun _ _ H x y v u Q r1 r2 h => by
    unfold inS at h
    split at h
    · rename_i c hc
      exact ⟨c, y, by rw [r1, one_sign hc], r2, h⟩
    · exact h.elim)
theorem e_join {mo : Res Str} {ml : Res (List Str)} {p2 : Pos} (ho : EG X W true ρ a mo) (hl : LG X W ρ e ml) (hs : starEach [e] X.env = [(false, eval e X.env)] := by rfl) (hbase : attributeBase a "join" X.env (eval a X.env) = eval a X.env := by rfl) (hline : (p2.endLine == pos.line) = true := by rfl) :
    EG X W g ρ (.Call (.Attribute a "join" p2) [e] [] pos) (mo.bind fun x => ml.bind fun ys => joinS x ys) := by
  obtain ⟨to, po, qo⟩ := ho.ex
  obtain ⟨tl, pl, ql⟩ := hl.ex
  refine ⟨_, pe_join po pl hs hbase hline, fun S own σ H Q rs h => qo S own σ H _ rs (h.bind.imp (fun x hx H1 v s1 r1 => ⟨⟨x, r1⟩, ql S own σ H1 _ (rs.mono s1) (hx.bind.imp (fun ys hy H2 p vs s2 e1 e2 => ?_) fun _ z => z.mono s1)⟩) fun _ z => z)⟩
  obtain ⟨h1, hy⟩ := hy.guard
  refine ⟨x, p, ys, r1, rfl, .inl (.inl (.inl ?_)), of_decide_eq_true h1, hy H2 _ (s1.trans s2) rfl⟩
  have ev : ∀ {vs : List V} {ys : List Str}, RpAll X.K (hide (S ++ own) H2) vs ys → vs = ys.map V.str := by
    intro vs ys r
    induction r with
    | nil => rfl
    | cons r _ ih =>
      cases r
      rw [ih]
      rfl
  rw [← ev e2]
  exact e1
theorem e_find {mo ml : Res Str} {p2 : Pos} (ho : EG X W true ρ a mo) (hl : EG X W true ρ e ml) (hs : starEach [e] X.env = [(false, eval e X.env)] := by rfl) (hbase : attributeBase a "find" X.env (eval a X.env) = eval a X.env := by rfl) (hline : (p2.endLine == pos.line) = true := by rfl) :
    EG X W g ρ (.Call (.Attribute a "find" p2) [e] [] pos) (mo.bind fun x => ml.bind fun y => .ok (Txt.find x y)) := by
  obtain ⟨to, po, qo⟩ := ho.ex
  obtain ⟨tl, pl, ql⟩ := hl.ex
  refine ⟨_, pe_m1 F.slot_str_find F.type_str_find mt_find po pl hs hbase hline, fun S own σ H Q rs h => qo S own σ H _ rs (h.bind.imp (fun x hx H1 v s1 r1 => ⟨⟨x, r1⟩, ql S own σ H1 _ (rs.mono s1) (hx.bind.imp (fun y hy H2 u s2 r2 => ?_) fun _ z => z.mono s1)⟩) fun _ z => z)⟩
  exact ⟨x, y, r1, by rw [show u = V.str y from r2], hy H2 _ (s1.trans s2) rfl⟩
theorem e_intS {p : Pos} {ma : Res Str} (ha : EG X W true ρ a ma) (hm : X.mg "int" = none) (hg : Gl X "int" := by rfl)
    (he : starEach [a] X.env = (false, eval a X.env) :: starEach [] X.env := by rfl) (hpl : (backTo pos (starEach [] X.env)).any (·.1) = false := by rfl) : EG X W g ρ (.Call (.Name "int" p) [a] [] pos) (ma.bind fun x => intS x) :=
  bt_flat (f := intS) call_int_str hm ha (fun B1 H x v Q r h => by
    unfold intS at h
    split at h
    · rename_i n hn
      obtain ⟨h1, h2⟩ := h.guard
      exact ⟨x, n, by rw [show v = V.str x from r], hn, of_decide_eq_true h1, h2 _ rfl⟩
    · exact h.elim) (by decide +kernel) hg (by decide) (by decide) he hpl
def rCi (f : Int → Int → Bool) : R2 := fun x y H Q => ∃ i j, x = .int i ∧ y = .int j ∧ Q (.bl (f i j)) H
/-- a ≤ b op c, of ints -/
theorem chain_run {op op' : CmpOp} {f f' : Int → Int → Bool} {ma mb mc : Res Int} (ho : OpR X (compareOp op) (rCi f)) (ho' : OpR X (compareOp op') (rCi f'))
    (ha : EG X W true ρ a ma) (hb : EG X W true ρ b mb) (hc : EG X W true ρ c mc) (hm : lastMarks [op, op'] [b, c] = false) :
    EG X W g ρ (.Compare a [op, op'] [b, c] pos) (ma.bind fun x => mb.bind fun y => if f x y then mc.bind fun z => .ok (f' y z) else .ok false) := by
  obtain ⟨ta, pa, qa⟩ := ha.ex
  obtain ⟨tb, pb, qb⟩ := hb.ex
  obtain ⟨tc, pc, qc⟩ := hc.ex
  refine ⟨_, pe_chain ho ho' pa pb pc hm, fun S own σ H Q rs h => two_run (R' := fun v u H2 => rCi f v u H2 fun z H3 => ∃ k, z = V.bl k ∧ (if k = true then tc σ H3 fun w' H4 => rCi f' u w' H4 Q else Q (V.bl false) H3)) qa qb rs h fun x y v u H2 s r1 r2 hp => ?_⟩
  refine ⟨x, y, r1, r2, f x y, rfl, ?_⟩
  cases hf : f x y with
  | true =>
    rw [hf] at hp
    rw [if_pos rfl]
    have hp' : Post (mc.bind fun z => .ok (f' y z)) _ _ := hp
    exact qc S own σ H2 _ (rs.mono s) (hp'.bind.imp (fun z hz H4 w' s4 r4 => ⟨y, z, r2, r4, hz H4 _ (s.trans s4) rfl⟩) fun _ z => z.mono s)
  | false =>
    rw [hf] at hp
    rw [if_neg Bool.false_ne_true]
    have hp' : Post (Res.ok false) _ _ := hp
    exact hp' H2 _ s rfl
theorem chain_runT {op op' : CmpOp} {f f' : Int → Int → Bool} {ma mb mc : Res Int} (ho : OpR X (compareOp op) (rCi f)) (ho' : OpR X (compareOp op') (rCi f'))
    (ha : EG X W true ρ a ma) (hb : EG X W true ρ b mb) (hc : EG X W true ρ c mc) (hm : lastMarks [op, op'] [b, c] = false) :
    TJ X W ρ (.Compare a [op, op'] [b, c] pos) (ma.bind fun x => mb.bind fun y => if f x y then mc.bind fun z => .ok (f' y z) else .ok false) := by
  obtain ⟨ta, pa, qa⟩ := ha.ex
  obtain ⟨tb, pb, qb⟩ := hb.ex
  obtain ⟨tc, pc, qc⟩ := hc.ex
  refine ⟨_, pt_chain ho ho' pa pb pc hm, fun S own σ H Q rs h => two_run (R' := fun v u H2 => rCi f v u H2 fun z H3 => ∃ k, z = V.bl k ∧ (if k = true then tc σ H3 fun w' H4 => rCi f' u w' H4 (fun z' H5 => ∃ k', z' = V.bl k' ∧ Q k' H5) else (fun z' H5 => ∃ k', z' = V.bl k' ∧ Q k' H5) (V.bl false) H3)) qa qb rs h fun x y v u H2 s r1 r2 hp => ?_⟩
  refine ⟨x, y, r1, r2, f x y, rfl, ?_⟩
  cases hf : f x y with
  | true =>
    rw [hf] at hp
    rw [if_pos rfl]
    have hp' : Post (mc.bind fun z => .ok (f' y z)) _ _ := hp
    exact qc S own σ H2 _ (rs.mono s) (hp'.bind.imp (fun z hz H4 w' s4 r4 => ⟨y, z, r2, r4, _, rfl, hz H4 (s.trans s4)⟩) fun _ z => z.mono s)
  | false =>
    rw [hf] at hp
    rw [if_neg Bool.false_ne_true]
    have hp' : Post (Res.ok false) _ _ := hp
    exact ⟨_, rfl, hp' H2 s⟩
theorem t_lele {ma mb mc : Res Int} (ha : EG X W true ρ a ma) (hb : EG X W true ρ b mb) (hc : EG X W true ρ c mc) (hm : lastMarks [.LtE, .LtE] [b, c] = false := by with_unfolding_all rfl) :
    TJ X W ρ (.Compare a [.LtE, .LtE] [b, c] pos) (ma.bind fun x => mb.bind fun y => if decide (x ≤ y) then mc.bind fun z => .ok (decide (y ≤ z)) else .ok false) :=
  chain_runT (f := fun x y => decide (x ≤ y)) (f' := fun x y => decide (x ≤ y)) op_le op_le ha hb hc hm
theorem t_lelt {ma mb mc : Res Int} (ha : EG X W true ρ a ma) (hb : EG X W true ρ b mb) (hc : EG X W true ρ c mc) (hm : lastMarks [.LtE, .Lt] [b, c] = false := by with_unfolding_all rfl) :
    TJ X W ρ (.Compare a [.LtE, .Lt] [b, c] pos) (ma.bind fun x => mb.bind fun y => if decide (x ≤ y) then mc.bind fun z => .ok (decide (y < z)) else .ok false) :=
  chain_runT (f := fun x y => decide (x ≤ y)) (f' := fun x y => decide (x < y)) op_le op_lt ha hb hc hm
theorem e_lele {ma mb mc : Res Int} (ha : EG X W true ρ a ma) (hb : EG X W true ρ b mb) (hc : EG X W true ρ c mc) (hm : lastMarks [.LtE, .LtE] [b, c] = false := by with_unfolding_all rfl) :
    EG X W g ρ (.Compare a [.LtE, .LtE] [b, c] pos) (ma.bind fun x => mb.bind fun y => if decide (x ≤ y) then mc.bind fun z => .ok (decide (y ≤ z)) else .ok false) :=
  chain_run (f := fun x y => decide (x ≤ y)) (f' := fun x y => decide (x ≤ y)) op_le op_le ha hb hc hm
theorem e_lelt {ma mb mc : Res Int} (ha : EG X W true ρ a ma) (hb : EG X W true ρ b mb) (hc : EG X W true ρ c mc) (hm : lastMarks [.LtE, .Lt] [b, c] = false := by with_unfolding_all rfl) :
    EG X W g ρ (.Compare a [.LtE, .Lt] [b, c] pos) (ma.bind fun x => mb.bind fun y => if decide (x ≤ y) then mc.bind fun z => .ok (decide (y < z)) else .ok false) :=
  chain_run (f := fun x y => decide (x ≤ y)) (f' := fun x y => decide (x < y)) op_le op_lt ha hb hc hm
end
end Py

set_option Elab.async false
set_option linter.all false
set_option maxRecDepth 100000
set_option maxHeartbeats 4000000
/-! Py, part X5: what the classes' messages ask. -/
namespace Py
open PySem PySem.Spec L2
open Rp (rp)
def fmtC : V → Prop := fun y => ∃ i : Int, y = .int i ∧ i.natAbs.log2 < 1920
def noC : V → Prop := fun _ => True
def fmtOk (i : Int) : Bool := decide (i.natAbs.log2 < 1920)
theorem fmtOk_c (K : PySem.W.Frag) (H : Hp) (y : V) (v : Int) (r : rp K H y v) (h : fmtOk v = true) : fmtC y := ⟨v, r, of_decide_eq_true h⟩
theorem noC_c {T : Type} [Rp T] (K : PySem.W.Frag) (H : Hp) (y : V) (v : T) (r : rp K H y v) (h : (fun _ : T => true) v = true) : noC y := trivial
theorem app_len (x y : Str) : (x ++ y).length = x.length + y.length := by
  show (x.cps ++ y.cps).size = x.cps.size + y.cps.size
  simp
section
variable {p : Str} {a : Addr} {y : V} {H : Hp} {Q' : List V → Hp → Prop}
theorem hta_c {z : V} (k : ∀ ms : List V, ms.length ≤ 1000 → Q' ms H) : tCons (tC z) tNil (start ["self", p] [.ref a, y]) H Q' := k [z] (by show 1 ≤ 1000; decide)
theorem hta_2 {pre : Str} (hc : fmtC y) (h1 : pre.length ≤ 1000) (k : ∀ ms : List V, ms.length ≤ 1000 → Q' ms H) :
    tCons (fun σ H Q => tJs [tC (.str pre), tFmt (tVar 1)] Str.empty σ H fun out H1 => Q (.str out) H1) tNil (start ["self", p] [.ref a, y]) H Q' := by
  obtain ⟨i, rfl, hi⟩ := hc
  have l1 := PyProof.Rows.int_text_len_1921 hi
  have l0 : (Str.empty ++ pre).length ≤ 1000 := by rw [app_len, show Str.empty.length = 0 from rfl, Nat.zero_add]; exact h1
  refine ⟨pre, rfl, by rw [sizeLine_eq]; omega, .int i, rfl, .inr ⟨i, rfl, hi, ?_⟩⟩
  refine ⟨_, rfl, by rw [app_len, sizeLine_eq]; omega, ?_⟩
  exact k [_] (by show 1 ≤ 1000; decide)
theorem hta_3 {pre post : Str} (hc : fmtC y) (h1 : pre.length ≤ 1000) (h2 : post.length ≤ 1000) (k : ∀ ms : List V, ms.length ≤ 1000 → Q' ms H) :
    tCons (fun σ H Q => tJs [tC (.str pre), tFmt (tVar 1), tC (.str post)] Str.empty σ H fun out H1 => Q (.str out) H1) tNil (start ["self", p] [.ref a, y]) H Q' := by
  obtain ⟨i, rfl, hi⟩ := hc
  have l1 := PyProof.Rows.int_text_len_1921 hi
  have l0 : (Str.empty ++ pre).length ≤ 1000 := by rw [app_len, show Str.empty.length = 0 from rfl, Nat.zero_add]; exact h1
  refine ⟨pre, rfl, by rw [sizeLine_eq]; omega, .int i, rfl, .inr ⟨i, rfl, hi, ?_⟩⟩
  refine ⟨_, rfl, by rw [app_len, sizeLine_eq]; omega, post, rfl, by rw [app_len, app_len, sizeLine_eq]; omega, ?_⟩
  exact k [_] (by show 1 ≤ 1000; decide)
end
theorem CtxOk.units {X : Cx} {W : WX} {lv : Nat} (C : CtxOk X W lv) : X.A.units + 64 < cLine := by have := C.room.un; omega
theorem CtxH.units {X : Cx} {lv : Nat} (C : CtxH X lv) : X.A.units + 64 < cLine := by have := C.room.un; omega
section
variable {X : Cx} {W : WX} {ρ : List Slot} {a b : Expr}
theorem e_eqvU {m n : Res PD} (hu : X.A.units + 64 < cLine) (h : EG X W true ρ a m) (h2 : EG X W true ρ b n) : CJ X W ρ .Eq a b (m.bind fun x => n.bind fun y => eqvD x y) :=
  e_cmpR (f := eqvD) (op_eqD hu) (nomark _) h h2 (fun _ _ H x y v u Q r1 r2 hq => by
    obtain ⟨h1, hq⟩ := hq.guard
    rw [Bool.and_eq_true] at h1
    exact ⟨_, _, dp_same hide_sub r1, dp_same hide_sub r2, h1.1, h1.2, hq⟩)
theorem e_nevU {m n : Res PD} (hu : X.A.units + 64 < cLine) (h : EG X W true ρ a m) (h2 : EG X W true ρ b n) : CJ X W ρ .NotEq a b (m.bind fun x => n.bind fun y => (eqvD x y).bind fun k => .ok (!k)) :=
  e_cmpR (f := fun x y => (eqvD x y).bind fun k => .ok (!k)) (op_neD hu) (nomark _) h h2 (fun _ _ H x y v u Q r1 r2 hq => by
    obtain ⟨h1, hq⟩ := hq.bind.guard
    rw [Bool.and_eq_true] at h1
    exact ⟨_, _, dp_same hide_sub r1, dp_same hide_sub r2, h1.1, h1.2, hq⟩)
end
end Py

set_option Elab.async false
set_option linter.all false
set_option maxRecDepth 100000
set_option maxHeartbeats 4000000
/-! Py, part Q: a list or a tuple of items of one kind. -/
namespace Py
open PySem PySem.Spec L2
open Rp (rp)
structure Sq (T : Type) where
  t : Bool
  l : List T
instance {T : Type} [Rp T] : Rp (Sq T) where
  rp K H v x := match x with
    | ⟨true, l⟩ => rp K H v (Tup.mk l)
    | ⟨false, l⟩ => rp K H v l
  mono {K H H' v x} s h := by
    obtain ⟨t, l⟩ := x
    cases t with
    | true => exact Rp.mono (T := Tup _) s h
    | false => exact Rp.mono (T := List _) s h
section
variable {X : Cx} {W : WX} {g : Bool} {ρ : List Slot} {T U A B : Type} [Rp T] [Rp U] [Rp A] [Rp B] {a b e tg : Expr} {pos : Pos} {lv : Nat}
/-- where the answer is known, only its picture counts -/
theorem EG.as {x : A} {y : B} (h : EG X W g ρ e (.ok x)) (k : ∀ (K : PySem.W.Frag) (H : Hp) (v : V), rp K H v x → rp K H v y) : EG X W g ρ e (.ok y) := by
  obtain ⟨t, p, q⟩ := h.ex
  exact ⟨t, p, fun S own σ H Q rs hp => q S own σ H Q rs fun H' v s r => hp H' v s (k _ _ _ r)⟩
theorem EG.asE {ex : Ex} (h : EG X W g ρ e (.err ex : Res A)) : EG X W g ρ e (.err ex : Res B) := by
  obtain ⟨t, p, q⟩ := h.ex
  exact ⟨t, p, fun S own σ H Q rs hp => q S own σ H Q rs hp⟩
theorem EG.asB (h : EG X W g ρ e (.bad : Res A)) : EG X W g ρ e (.bad : Res B) := by
  obtain ⟨t, p, q⟩ := h.ex
  exact ⟨t, p, fun S own σ H Q rs hp => hp.elim⟩
theorem e_sqT {m : Res (Tup T)} (h : EG X W g ρ e m) : EG X W g ρ e (m.bind fun x => .ok (Sq.mk true x.l)) := by
  cases m with
  | ok x => exact h.as fun _ _ _ r => r
  | err z => exact h.asE
  | bad => exact h.asB
theorem e_sqL {m : Res (List T)} (h : EG X W g ρ e m) : EG X W g ρ e (m.bind fun x => .ok (Sq.mk false x)) := by
  cases m with
  | ok x => exact h.as fun _ _ _ r => r
  | err z => exact h.asE
  | bad => exact h.asB
theorem i_sq {m : Res (Sq T)} (h : EG X W true ρ e m) : IJ X W ρ tg e (m.bind fun x => .ok x.l) := by
  cases m with
  | ok x =>
    obtain ⟨t, l⟩ := x
    cases t with
    | true => exact i_tup (m := .ok (Tup.mk l)) (h.as fun _ _ _ r => r)
    | false => exact i_list (m := .ok l) (h.as fun _ _ _ r => r)
  | err z => exact i_list (m := .err z) h.asE
  | bad => exact i_list (m := .bad) h.asB
theorem e_ixsq {m : Res (Sq T)} {mi : Res Int} (h : EG X W true ρ a m) (hi : EG X W true ρ b mi) (hs : PlainIx b := by exact fun _ _ => rfl) : EG X W true ρ (.Subscript a b pos) (m.bind fun xs => mi.bind fun i => idxM xs.l i) := by
  cases m with
  | ok x =>
    obtain ⟨t, l⟩ := x
    cases t with
    | true => exact e_ixt (ma := .ok (Tup.mk l)) (h.as fun _ _ _ r => r) hi hs
    | false => exact e_ix (ma := .ok l) (EG.lg (h.as fun _ _ _ r => r)) hi hs
  | err z => exact e_ixt (ma := (.err z : Res (Tup T))) h.asE hi hs
  | bad => exact e_ixt (ma := (.bad : Res (Tup T))) h.asB hi hs
theorem f_listofsq {p : Pos} {m : Res (Sq T)} (h : EG X W true ρ a m) (hm : X.mg "list" = none) (hg : Gl X "list" := by rfl)
    (he : starEach [a] X.env = (false, eval a X.env) :: starEach [] X.env := by rfl) (hpl : (backTo pos (starEach [] X.env)).any (·.1) = false := by rfl) : FG X W ρ (.Call (.Name "list" p) [a] [] pos) (m.bind fun x => .ok x.l) := by
  cases m with
  | ok x =>
    obtain ⟨t, l⟩ := x
    cases t with
    | true => exact f_listoft (ma := .ok (Tup.mk l)) (h.as fun _ _ _ r => r) hm hg he hpl
    | false => exact f_listof (ma := .ok l) (EG.lg (h.as fun _ _ _ r => r)) hm hg he hpl
  | err z => exact f_listoft (ma := (.err z : Res (Tup T))) h.asE hm hg he hpl
  | bad => exact f_listoft (ma := (.bad : Res (Tup T))) h.asB hm hg he hpl
end
end Py

set_option Elab.async false
set_option linter.all false
set_option maxRecDepth 100000
set_option maxHeartbeats 4000000
/-! Py, part Z: zip of lists and tuples. -/
namespace Py
open PySem PySem.Spec L2
open Rp (rp)
/-- at a: an iterator of the list | tuple at l, at place n -/
def Ik (p : Bool) (h : Heap) (a l : Addr) (n : Nat) : Prop := if p then h.IsTupleIter a l n else h.IsListIter a l n
def Sk (p : Bool) (h : Heap) (a : Addr) (xs : Array Value) : Prop := if p then h.IsTuple a xs else h.IsList a xs
theorem Ik.at {p : Bool} {h h' : Heap} {a l : Addr} {n : Nat} (z : Ik p h a l n) (k : ∀ o, h.get? a = some o → h'.get? a = some o) : Ik p h' a l n := by
  cases p <;> (obtain ⟨o, e, r⟩ := z; exact ⟨o, k o e, r⟩)
theorem Sk.at {p : Bool} {h h' : Heap} {a : Addr} {xs : Array Value} (z : Sk p h a xs) (k : ∀ o, h.get? a = some o → h'.get? a = some o) : Sk p h' a xs := by
  cases p <;> (obtain ⟨o, e, r⟩ := z; exact ⟨o, k o e, r⟩)
theorem Ik.obj {p : Bool} {h : Heap} {a l : Addr} {n : Nat} (z : Ik p h a l n) : ∃ o vs, h.get? a = some o ∧ o.data = .fields vs := by
  cases p <;> (obtain ⟨o, e, _, d⟩ := z; exact ⟨o, _, e, d⟩)
theorem Sk.lt {p : Bool} {h : Heap} {a : Addr} {xs : Array Value} (z : Sk p h a xs) : a < h.objs.size := by
  cases p <;> (obtain ⟨o, e, _⟩ := z; exact Heap.lt_size e)
section
variable {prog : Program} {w : World} {A : Around} {E : Value → Shared → Prop} {s : Shared}
theorem draw_item {p : Bool} {i l : Addr} {n : Nat} {xs : Array Value} {x : Value} {Q : Value → Shared → Prop} (hi : Ik p s.heap i l n) (hl : Sk p s.heap l xs) (hx : xs[n]? = some x)
    (k : ∀ h', Ik p h' i l (n + 1) → Heap.SameBut i s.heap h' → Q x { s with heap := h' }) : wpAny (model prog w) A (Builtin.SmallTypes.nextOf (.ref i)) Q E s := by
  cases p with
  | true => exact wpAny_nextOf_tuple_item hi hl hx k
  | false => exact wpAny_nextOf_list_item hi hl hx k
theorem draw_end {p : Bool} {i l : Addr} {n : Nat} {xs : Array Value} {Q : Value → Shared → Prop} (hh : A.handled = none) (hi : Ik p s.heap i l n) (hl : Sk p s.heap l xs) (hx : xs[n]? = none)
    (k : ∀ h' e, Heap.ExtBut i s.heap h' → (∃ o, h'.get? e = some o ∧ o.cls = .type "StopIteration") → E (.ref e) { s with heap := h' }) : wpAny (model prog w) A (Builtin.SmallTypes.nextOf (.ref i)) Q E s := by
  cases p with
  | true => exact wpAny_nextOf_tuple_end hh hi hl hx k
  | false => exact wpAny_nextOf_list_end hh hi hl hx k
theorem zipk_item {p q : Bool} {z U V i j l m : Addr} {c d : Nat} {xs ys : Array Value} {x y a b : Value} {Q : Value → Shared → Prop} (ap : ZipApart z U V i j l m) (zz : IsZip s.heap z U V .none) (tu : IsPair s.heap U (.ref i) (.ref j))
    (tv : IsPair s.heap V a b) (di : Ik p s.heap i l c) (dj : Ik q s.heap j m d) (sl : Sk p s.heap l xs) (sm : Sk q s.heap m ys) (gx : xs[c]? = some x) (gy : ys[d]? = some y)
    (fin : ∀ h', IsZip h' z U V (rawInt s.heap.objs.size) → IsPair h' V x y → Ik p h' i l (c + 1) → Ik q h' j m (d + 1) → IsPair h' s.heap.objs.size x y → h'.objs.size = s.heap.objs.size + 1 →
      (∀ k o, k ≠ z → k ≠ V → k ≠ i → k ≠ j → s.heap.get? k = some o → h'.get? k = some o) → Q (.ref s.heap.objs.size) { s with heap := h' }) :
    wpAny (model prog w) A (Builtin.«zip.__next__» ⟨[.ref z], []⟩) (fun f s' => ∃ v, f = .done (.ret v) ∧ Q v s') E s := by
  show wpAny _ _ (field (.ref z) 2 >>= _) _ _ _
  refine wpAny_bind (wpAny_field zz rfl (x := .bool false) rfl ?_)
  show wpAny _ _ (field (.ref z) 3 >>= _) _ _ _
  refine wpAny_bind (wpAny_field zz rfl (x := .ref U) rfl (wpAny_bind (wpAny_seqItems tu rfl ?_)))
  show wpAny _ _ (Builtin.SmallTypes.ownedTupleIsFree (.ref z) >>= _) _ _ _
  unfold Builtin.SmallTypes.ownedTupleIsFree
  refine wpAny_bind (wpAny_bind (wpAny_field zz rfl (x := .none) rfl (wpAny_pure ?_)))
  simp only [if_true]
  refine wpAny_bind (wpAny_rule (wpAny_bind (wpAny_field zz rfl (x := .ref V) rfl (wpAny_bind (wpAny_setField_rec zz (by simp) fun g1 z1 e1 => ?_)))))
  have z1' : IsZip g1 z U V .ellipsis := z1
  refine wpAny_bind ?_
  simp only [List.zipIdx_cons, List.zipIdx_nil, List.forIn_cons, List.forIn_nil]
  refine wpAny_bind (wpAny_bind (wpAny_onRaise ?_))
  show wpAny _ _ (Builtin.SmallTypes.nextOf (.ref i) >>= _) _ _ _
  have x1 : ∀ {k : Addr} {o : Obj}, k ≠ z → s.heap.get? k = some o → g1.get? k = some o := fun n e => e1.extBut _ _ n e
  refine wpAny_bind (draw_item (di.at fun o e => x1 ap.i1z e) (sl.at fun o e => x1 ap.l1z e) gx fun g2 di2 e2 => wpAny_pure ?_)
  have x2 : ∀ {k : Addr} {o : Obj}, k ≠ z → k ≠ i → s.heap.get? k = some o → g2.get? k = some o := fun n n2 e => e2.extBut _ _ n2 (x1 n e)
  have tv2 : IsPair g2 V a b := x2 ap.TOz ap.TOi1 tv
  refine wpAny_bind (wpAny_seqItems tv2 rfl (wpAny_bind (wpAny_updateSeq_pair tv2 fun g3 tv3 e3 => wpAny_bind (wpAny_letGo (wpAny_pure ?_)))))
  have tv3' : IsPair g3 V x b := tv3
  refine wpAny_bind (wpAny_bind (wpAny_onRaise ?_))
  show wpAny _ _ (Builtin.SmallTypes.nextOf (.ref j) >>= _) _ _ _
  have x3 : ∀ {k : Addr} {o : Obj}, k ≠ z → k ≠ i → k ≠ V → s.heap.get? k = some o → g3.get? k = some o := fun n n2 n3 e => e3.extBut _ _ n3 (x2 n n2 e)
  refine wpAny_bind (draw_item (dj.at fun o e => x3 ap.i2z ap.i12.symm ap.TOi2.symm e) (sm.at fun o e => x3 ap.l2z ap.l2i1 ap.l2TO e) gy fun g4 dj4 e4 => wpAny_pure ?_)
  have tv4 : IsPair g4 V x b := e4.extBut _ _ ap.TOi2 tv3'
  refine wpAny_bind (wpAny_seqItems tv4 rfl (wpAny_bind (wpAny_updateSeq_pair tv4 fun g5 tv5 e5 => wpAny_bind (wpAny_letGo (wpAny_pure (wpAny_pure ?_))))))
  have tv5' : IsPair g5 V x y := tv5
  have sz : g5.objs.size = s.heap.objs.size := by rw [e5.1, e4.1, e3.1, e2.1, e1.1]
  have z5 : IsZip g5 z U V .ellipsis := e5.extBut _ _ ap.TOz.symm (e4.extBut _ _ ap.i2z.symm (e3.extBut _ _ ap.TOz.symm (e2.extBut _ _ ap.i1z.symm z1')))
  have x5 : ∀ k o, k ≠ z → k ≠ V → k ≠ i → k ≠ j → s.heap.get? k = some o → g5.get? k = some o := fun k o n1 n2 n3 n4 e => e5.extBut _ _ n2 (e4.extBut _ _ n4 (x3 n1 n3 n2 e))
  have di5 : Ik p g5 i l (c + 1) := di2.at fun o e => e5.extBut _ _ ap.TOi1.symm (e4.extBut _ _ ap.i12 (e3.extBut _ _ ap.TOi1.symm e))
  have dj5 : Ik q g5 j m (d + 1) := dj4.at fun o e => e5.extBut _ _ ap.TOi2.symm e
  have zl : z < g5.objs.size := Heap.lt_size z5
  refine wpAny_bind (wpAny_seqItems tv5' rfl (wpAny_bind (wpAny_newTuple ?_)))
  show wpAny _ _ (Builtin.SmallTypes.ownedTupleHandOut (.ref z) (.ref g5.objs.size) >>= _) _ _ _
  unfold Builtin.SmallTypes.ownedTupleHandOut
  have z6 : IsZip (g5.push { cls := .type "tuple", data := .seq #[x, y] }) z U V .ellipsis := Heap.get?_push_of_some _ z5
  refine wpAny_bind (wpAny_bind (wpAny_setField_rec z6 (by simp) fun g7 z7 e7 => ?_))
  have z7' : IsZip g7 z U V (rawInt g5.objs.size) := z7
  refine wpAny_setField_rec z7' (by simp) fun g8 z8 e8 => ?_
  have z8' : IsZip g8 z U V (rawInt g5.objs.size) := z8
  have x8 : ∀ {k : Addr} {o : Obj}, k ≠ z → g5.get? k = some o → g8.get? k = some o := fun n e => e8.extBut _ _ n (e7.extBut _ _ n (Heap.get?_push_of_some _ e))
  have t8 : IsPair g8 g5.objs.size x y := e8.extBut _ _ (Nat.ne_of_gt zl) (e7.extBut _ _ (Nat.ne_of_gt zl) (Heap.get?_push_size _ rfl))
  have s8 : g8.objs.size = g5.objs.size + 1 := by rw [e8.1, e7.1, Heap.size_push]
  rw [sz] at z8' t8 s8
  refine wpAny_pure ⟨_, rfl, ?_⟩
  show Q (.ref g5.objs.size) _
  rw [sz]
  exact fin g8 z8' (x8 ap.TOz tv5') (di5.at fun o e => x8 ap.i1z e) (dj5.at fun o e => x8 ap.i2z e) t8 s8 fun k o n1 n2 n3 n4 e => x8 n1 (x5 k o n1 n2 n3 n4 e)
theorem zipk_end {p q : Bool} {z U V i j l m : Addr} {c d : Nat} {xs ys : Array Value} {a b : Value} {Q : Fin → Shared → Prop} (hh : A.handled = none) (ap : ZipApart z U V i j l m) (zz : IsZip s.heap z U V .none) (tu : IsPair s.heap U (.ref i) (.ref j))
    (tv : IsPair s.heap V a b) (di : Ik p s.heap i l c) (dj : Ik q s.heap j m d) (sl : Sk p s.heap l xs) (sm : Sk q s.heap m ys) (stop : xs[c]? = none ∨ ys[d]? = none)
    (out : ∀ h' e, (∀ k o, k ≠ z → k ≠ V → k ≠ i → k ≠ j → s.heap.get? k = some o → h'.get? k = some o) → (∃ o, h'.get? e = some o ∧ o.cls = .type "StopIteration") → E (.ref e) { s with heap := h' }) :
    wpAny (model prog w) A (Builtin.«zip.__next__» ⟨[.ref z], []⟩) Q E s := by
  show wpAny _ _ (field (.ref z) 2 >>= _) _ _ _
  refine wpAny_bind (wpAny_field zz rfl (x := .bool false) rfl ?_)
  show wpAny _ _ (field (.ref z) 3 >>= _) _ _ _
  refine wpAny_bind (wpAny_field zz rfl (x := .ref U) rfl (wpAny_bind (wpAny_seqItems tu rfl ?_)))
  show wpAny _ _ (Builtin.SmallTypes.ownedTupleIsFree (.ref z) >>= _) _ _ _
  unfold Builtin.SmallTypes.ownedTupleIsFree
  refine wpAny_bind (wpAny_bind (wpAny_field zz rfl (x := .none) rfl (wpAny_pure ?_)))
  simp only [if_true]
  refine wpAny_bind (wpAny_rule (wpAny_bind (wpAny_field zz rfl (x := .ref V) rfl (wpAny_bind (wpAny_setField_rec zz (by simp) fun g1 z1 e1 => ?_)))))
  have z1' : IsZip g1 z U V .ellipsis := z1
  refine wpAny_bind ?_
  simp only [List.zipIdx_cons, List.zipIdx_nil, List.forIn_cons, List.forIn_nil]
  refine wpAny_bind (wpAny_bind (wpAny_onRaise ?_))
  show wpAny _ _ (Builtin.SmallTypes.nextOf (.ref i) >>= _) _ _ _
  have x1 : ∀ {k : Addr} {o : Obj}, k ≠ z → s.heap.get? k = some o → g1.get? k = some o := fun n e => e1.extBut _ _ n e
  cases gx : xs[c]? with
  | none =>
    refine wpAny_bind (draw_end hh (di.at fun o e => x1 ap.i1z e) (sl.at fun o e => x1 ap.l1z e) gx fun g2 e e2 he => ?_)
    obtain ⟨oe, h1, h2⟩ := he
    have z2 : IsZip g2 z U V .ellipsis := e2 _ _ ap.i1z.symm z1'
    have ne : e ≠ z := fun y => by subst y; rw [z2] at h1; cases h1; simp at h2
    exact wpAny_setField_rec z2 (by simp) fun g3 _ e3 => out g3 e (fun k o n1 _ n3 _ y => e3.extBut _ _ n1 (e2 _ _ n3 (x1 n1 y))) ⟨oe, e3.extBut _ _ ne h1, h2⟩
  | some x =>
    have gy : ys[d]? = none := stop.resolve_left fun y => by rw [gx] at y; cases y
    refine wpAny_bind (draw_item (di.at fun o e => x1 ap.i1z e) (sl.at fun o e => x1 ap.l1z e) gx fun g2 di2 e2 => wpAny_pure ?_)
    have x2 : ∀ {k : Addr} {o : Obj}, k ≠ z → k ≠ i → s.heap.get? k = some o → g2.get? k = some o := fun n n2 e => e2.extBut _ _ n2 (x1 n e)
    have tv2 : IsPair g2 V a b := x2 ap.TOz ap.TOi1 tv
    refine wpAny_bind (wpAny_seqItems tv2 rfl (wpAny_bind (wpAny_updateSeq_pair tv2 fun g3 tv3 e3 => wpAny_bind (wpAny_letGo (wpAny_pure ?_)))))
    refine wpAny_bind (wpAny_bind (wpAny_onRaise ?_))
    show wpAny _ _ (Builtin.SmallTypes.nextOf (.ref j) >>= _) _ _ _
    have x3 : ∀ {k : Addr} {o : Obj}, k ≠ z → k ≠ i → k ≠ V → s.heap.get? k = some o → g3.get? k = some o := fun n n2 n3 e => e3.extBut _ _ n3 (x2 n n2 e)
    refine wpAny_bind (draw_end hh (dj.at fun o e => x3 ap.i2z ap.i12.symm ap.TOi2.symm e) (sm.at fun o e => x3 ap.l2z ap.l2i1 ap.l2TO e) gy fun g4 e e4 he => ?_)
    obtain ⟨oe, h1, h2⟩ := he
    have z4 : IsZip g4 z U V .ellipsis := e4 _ _ ap.i2z.symm (e3.extBut _ _ ap.TOz.symm (e2.extBut _ _ ap.i1z.symm z1'))
    have ne : e ≠ z := fun y => by subst y; rw [z4] at h1; cases h1; simp at h2
    exact wpAny_setField_rec z4 (by simp) fun g5 _ e5 => out g5 e (fun k o n1 n2 n3 n4 y => e5.extBut _ _ n1 (e4 _ _ n4 (x3 n1 n3 n2 y))) ⟨oe, e5.extBut _ _ ne h1, h2⟩
theorem zipk_next {p q : Bool} {z U V i j l m : Addr} {c d : Nat} {xs ys : Array Value} {x y a b : Value} {Q : Option Value → Shared → Prop} (ap : ZipApart z U V i j l m) (zz : IsZip s.heap z U V .none) (tu : IsPair s.heap U (.ref i) (.ref j))
    (tv : IsPair s.heap V a b) (di : Ik p s.heap i l c) (dj : Ik q s.heap j m d) (sl : Sk p s.heap l xs) (sm : Sk q s.heap m ys) (gx : xs[c]? = some x) (gy : ys[d]? = some y)
    (fin : ∀ h', IsZip h' z U V (rawInt s.heap.objs.size) → IsPair h' V x y → Ik p h' i l (c + 1) → Ik q h' j m (d + 1) → IsPair h' s.heap.objs.size x y → h'.objs.size = s.heap.objs.size + 1 →
      (∀ k o, k ≠ z → k ≠ V → k ≠ i → k ≠ j → s.heap.get? k = some o → h'.get? k = some o) → Q (some (.ref s.heap.objs.size)) { s with heap := h' }) : wpAny (model prog w) A (pyNext (.ref z)) Q E s := by
  have ty : s.TypeIs (.ref z) "zip" := ⟨_, zz, rfl⟩
  unfold pyNext
  refine wpAny_bind (wpAny_attempt (wpAny_callSpecial?_slot (name := Str.ofString "__next__") ty F.slot_zip_next (wpAny_call_entry F.slot_zip_next ty F.entry_zip_next ?_ (F.args_zip_next_1 _))))
  exact zipk_item ap zz tu tv di dj sl sm gx gy fun h' b1 b2 b3 b4 b5 b6 b7 => wpAny_pure (fin h' b1 b2 b3 b4 b5 b6 b7)
theorem zipk_stop {p q : Bool} {z U V i j l m : Addr} {c d : Nat} {xs ys : Array Value} {a b : Value} {Q : Option Value → Shared → Prop} (hh : A.handled = none) (ap : ZipApart z U V i j l m) (zz : IsZip s.heap z U V .none) (tu : IsPair s.heap U (.ref i) (.ref j))
    (tv : IsPair s.heap V a b) (di : Ik p s.heap i l c) (dj : Ik q s.heap j m d) (sl : Sk p s.heap l xs) (sm : Sk q s.heap m ys) (stop : xs[c]? = none ∨ ys[d]? = none)
    (fin : ∀ h', (∀ k o, k ≠ z → k ≠ V → k ≠ i → k ≠ j → s.heap.get? k = some o → h'.get? k = some o) → Q none { s with heap := h' }) : wpAny (model prog w) A (pyNext (.ref z)) Q E s := by
  have ty : s.TypeIs (.ref z) "zip" := ⟨_, zz, rfl⟩
  unfold pyNext
  refine wpAny_bind (wpAny_attempt (wpAny_callSpecial?_slot (name := Str.ofString "__next__") ty F.slot_zip_next (wpAny_call_entry F.slot_zip_next ty F.entry_zip_next ?_ (F.args_zip_next_1 _))))
  refine zipk_end hh ap zz tu tv di dj sl sm stop fun h' e k he => ?_
  rcases he with ⟨o, e1, e2⟩
  exact wpAny_bind (wpAny_isInstance (T := "StopIteration") (b := true) ⟨o, e1, e2⟩ isSubtype_stop (wpAny_pure (fin _ k)))
/-! zip(a, b) made -/
def itO (p : Bool) (l : Addr) : Obj := { cls := .type (if p then "tuple_iterator" else "list_iterator"), data := .fields #[.ref l, .int 0 0] }
def zN1 (p : Bool) (h : Heap) (l : Addr) : Heap := h.push (itO p l)
def zN2 (p q : Bool) (h : Heap) (l m : Addr) : Heap := (zN1 p h l).push (itO q m)
def zN3 (p q : Bool) (h : Heap) (l m : Addr) : Heap := (zN2 p q h l m).push { cls := .type "tuple", data := .seq #[.ref h.objs.size, .ref (zN1 p h l).objs.size] }
def zN4 (p q : Bool) (h : Heap) (l m : Addr) : Heap := (zN3 p q h l m).push { cls := .type "tuple", data := .seq #[.none, .none] }
def zN5 (p q : Bool) (h : Heap) (l m : Addr) : Heap := (zN4 p q h l m).push { cls := .type "zip", data := .fields #[.none, .bool false, .bool false, .ref (zN2 p q h l m).objs.size, .ref (zN3 p q h l m).objs.size] }
theorem it_of {p : Bool} {h : Heap} {l : Addr} {xs : Array Value} {Q : Value → Shared → Prop} {g : Array GenState} {d : Drawn} {t : Nat} {os : OsState} (sl : Sk p h l xs) (k : Q (.ref h.objs.size) ⟨h.push (itO p l), g, d, t, os⟩) :
    wpAny (model prog w) A (pyIter (.ref l)) Q E ⟨h, g, d, t, os⟩ := by
  cases p with
  | true => exact wpAny_pyIter_tuple (s := ⟨h, g, d, t, os⟩) sl k
  | false => exact wpAny_pyIter_list (s := ⟨h, g, d, t, os⟩) sl k
theorem sk_push {p : Bool} {h : Heap} {l : Addr} {xs : Array Value} {o : Obj} (sl : Sk p h l xs) : Sk p (h.push o) l xs := sl.at fun _ e => Heap.get?_push_of_some _ e
end
theorem meets_zipk (p q : Bool) (l m : Addr) (xs ys : Array Value) :
    Meets (Builtin.«zip.__new__» ⟨[.type "zip", .ref l, .ref m], []⟩) (fun _ R s => Sk p s.heap l xs ∧ Sk q s.heap m ys ∧ R (.ok (.ret (.ref (zN4 p q s.heap l m).objs.size))) { s with heap := zN5 p q s.heap l m }) :=
  .of_wp fun prog w A R s hyp => by
    obtain ⟨hp, g, d, tk, os⟩ := s
    obtain ⟨h1, h2, hr⟩ := hyp
    have sub := sub_zip
    have h1' : Sk p hp l xs := h1
    have h2' : Sk q (hp.push (itO p l)) m ys := sk_push h2
    wp_walk using it_of h1', it_of h2'
    exact ⟨_, rfl, hr⟩
section
variable {prog : Program} {w : World} {A : Around} {E : Value → Shared → Prop} {s : Shared}
theorem itO_ik {p : Bool} {h : Heap} {a l : Addr} (e : h.get? a = some (itO p l)) : Ik p h a l 0 := by
  cases p <;> exact ⟨_, e, rfl, rfl⟩
theorem call_zipk {p q : Bool} {l m : Addr} {xs ys : Array Value} {Q : Value → Shared → Prop} (sl : Sk p s.heap l xs) (sm : Sk q s.heap m ys)
    (fin : ∀ h', IsZip h' (s.heap.objs.size + 4) (s.heap.objs.size + 2) (s.heap.objs.size + 3) .none → IsPair h' (s.heap.objs.size + 2) (.ref s.heap.objs.size) (.ref (s.heap.objs.size + 1)) → IsPair h' (s.heap.objs.size + 3) .none .none →
      Ik p h' s.heap.objs.size l 0 → Ik q h' (s.heap.objs.size + 1) m 0 → h'.objs.size = s.heap.objs.size + 5 → (∀ c o, s.heap.get? c = some o → h'.get? c = some o) → Q (.ref (s.heap.objs.size + 4)) { s with heap := h' }) :
    wpAny (model prog w) A (call (.type "zip") [.ref l, .ref m]) Q E s := by
  refine callType_new F.called_zip (by decide) (F.typeCall_zip_2 _ _) (F.newCall_zip_2 _ _) (fun obj => F.args_object_init_3 obj _ _) F.entry_zip_new (meets_zipk p q l m xs ys) ⟨sl, sm, ?_⟩
  have n1 : (zN1 p s.heap l).objs.size = s.heap.objs.size + 1 := Heap.size_push ..
  have n2 : (zN2 p q s.heap l m).objs.size = s.heap.objs.size + 2 := (Heap.size_push ..).trans (by rw [n1])
  have n3 : (zN3 p q s.heap l m).objs.size = s.heap.objs.size + 3 := (Heap.size_push ..).trans (by rw [n2])
  have n4 : (zN4 p q s.heap l m).objs.size = s.heap.objs.size + 4 := (Heap.size_push ..).trans (by rw [n3])
  have n5 : (zN5 p q s.heap l m).objs.size = s.heap.objs.size + 5 := (Heap.size_push ..).trans (by rw [n4])
  have up4 : ∀ {c : Addr} {o : Obj}, (zN4 p q s.heap l m).get? c = some o → (zN5 p q s.heap l m).get? c = some o := fun e => Heap.get?_push_of_some _ e
  have up3 : ∀ {c : Addr} {o : Obj}, (zN3 p q s.heap l m).get? c = some o → (zN5 p q s.heap l m).get? c = some o := fun e => up4 (Heap.get?_push_of_some _ e)
  have up2 : ∀ {c : Addr} {o : Obj}, (zN2 p q s.heap l m).get? c = some o → (zN5 p q s.heap l m).get? c = some o := fun e => up3 (Heap.get?_push_of_some _ e)
  have up1 : ∀ {c : Addr} {o : Obj}, (zN1 p s.heap l).get? c = some o → (zN5 p q s.heap l m).get? c = some o := fun e => up2 (Heap.get?_push_of_some _ e)
  have o5 : (zN5 p q s.heap l m).get? (zN4 p q s.heap l m).objs.size = some { cls := .type "zip", data := .fields #[.none, .bool false, .bool false, .ref (zN2 p q s.heap l m).objs.size, .ref (zN3 p q s.heap l m).objs.size] } := Heap.get?_push_size _ rfl
  have o4 : (zN5 p q s.heap l m).get? (zN3 p q s.heap l m).objs.size = some { cls := .type "tuple", data := .seq #[.none, .none] } := up4 (Heap.get?_push_size _ rfl)
  have o3 : (zN5 p q s.heap l m).get? (zN2 p q s.heap l m).objs.size = some { cls := .type "tuple", data := .seq #[.ref s.heap.objs.size, .ref (zN1 p s.heap l).objs.size] } := up3 (Heap.get?_push_size _ rfl)
  have o2 : (zN5 p q s.heap l m).get? (zN1 p s.heap l).objs.size = some (itO q m) := up2 (Heap.get?_push_size _ (by cases q <;> rfl))
  have o1 : (zN5 p q s.heap l m).get? s.heap.objs.size = some (itO p l) := up1 (Heap.get?_push_size _ (by cases p <;> rfl))
  show _ ∧ _
  rw [n2, n3, n4] at o5
  rw [n1, n2] at o3
  rw [n3] at o4
  rw [n1] at o2
  rw [n4]
  exact ⟨⟨_, o5, rfl⟩, fin _ o5 o3 o4 (itO_ik o1) (itO_ik o2) n5 fun c o e => up1 (Heap.get?_push_of_some _ e)⟩
end
/-! over the layer -/
def Qk (p : Bool) (K : PySem.W.Frag) (H : Hp) (a : Addr) (xs : List V) : Prop := if p then SqT K H a xs else SqL K H a xs
section
variable {X : Cx} {pins : List (Addr × Obj)} {σ : St} {H : Hp} {s : Shared} {a b : Addr} {xs ys : List V} {p q : Bool}
theorem kq_at (I : Inv X pins σ H s) (h : Qk p X.K H a xs) : ∃ its : List Value, Vals xs its ∧ Sk p s.heap a its.toArray := by
  cases p with
  | true =>
    rcases I.tuple h with ⟨its, r, t, _⟩
    exact ⟨its, r, t⟩
  | false =>
    rcases I.list h with ⟨its, r, t, _⟩
    exact ⟨its, r, t.isList⟩
theorem kq_inj (I : Inv X pins σ H s) (h : Qk p X.K H a xs) (h' : Qk p X.K H a ys) : xs = ys := by
  cases p with
  | true => exact I.tuple_inj h h'
  | false => exact I.list_inj h h'
/-- zip's iterator -/
def Izk (p q : Bool) (K : PySem.W.Frag) (a b : Addr) : It where
  go := fun i H => ∃ (xs ys : List V) (x y : V), Qk p K H a xs ∧ Qk q K H b ys ∧ xs[i]? = some x ∧ ys[i]? = some y
  yld := fun i H v H' => ∃ T x y, v = .ref T ∧ H T = none ∧ H' = upd H T (.tup [x, y]) ∧ (∀ xs, Qk p K H a xs → xs[i]? = some x) ∧ ∀ ys, Qk q K H b ys → ys[i]? = some y
  stop := fun i H => ∃ xs ys : List V, Qk p K H a xs ∧ Qk q K H b ys ∧ (xs.length ≤ i ∨ ys.length ≤ i)
theorem turn_zipk {P : Program} {w : World} {K : PySem.W.Frag} {elts : List Expr} {kk : Nat} {tpos : Pos} {z U V1 i1 i2 : Addr} (ap : ZipApart z U V1 i1 i2 a b) :
    Turn P w K (.Tuple elts kk tpos) (Izk p q K a b) [z, U, V1, i1, i2] z (fun i h => IsZip h z U V1 .none ∧ IsPair h U (.ref i1) (.ref i2) ∧ (∃ x y, IsPair h V1 x y) ∧ Ik p h i1 a i ∧ Ik q h i2 b i) where
  mem := by simp
  obj := fun i h st c hc => by
    rcases st with ⟨e1, e2, ⟨x, y, e3⟩, e4, e5⟩
    rcases e4.obj with ⟨o4, v4, f4, d4⟩
    rcases e5.obj with ⟨o5, v5, f5, d5⟩
    have cs : c = z ∨ c = U ∨ c = V1 ∨ c = i1 ∨ c = i2 := by simpa using hc
    rcases cs with rfl | rfl | rfl | rfl | rfl
    · exact ⟨_, e1, fun v q => nomatch q⟩
    · exact ⟨_, e2, fun v q => nomatch q⟩
    · exact ⟨_, e3, fun v q => nomatch q⟩
    · exact ⟨o4, f4, fun v q => by rw [d4] at q; cases q⟩
    · exact ⟨o5, f5, fun v q => by rw [d5] at q; cases q⟩
  keep := fun i h h' st k => by
    rcases st with ⟨e1, e2, ⟨x, y, e3⟩, e4, e5⟩
    exact ⟨k z (by simp) _ e1, k U (by simp) _ e2, ⟨x, y, k V1 (by simp) _ e3⟩, e4.at fun o e => k i1 (by simp) o e, e5.at fun o e => k i2 (by simp) o e⟩
  item := by
    intro X hP hw hK hc i pins s σ H E I hf st hg
    subst hP hw hK
    rcases st with ⟨e1, e2, ⟨x0, y0, e3⟩, e4, e5⟩
    rcases hg with ⟨xs, ys, x, y, hqx, hqy, hx, hy⟩
    rcases kq_at I hqx with ⟨its, rv, sl⟩
    rcases kq_at I hqy with ⟨its2, rv2, sm⟩
    obtain ⟨u, hu, ru⟩ := rv.get hx
    obtain ⟨u2, hu2, ru2⟩ := rv2.get hy
    have zl : z < s.heap.objs.size := Heap.lt_size e1
    refine zipk_next ap e1 e2 e3 e4 e5 sl sm (x := u) (y := u2) (by simpa using hu) (by simpa using hu2) fun h' z' t' d1 d2 tT hsz hk => ?_
    refine ⟨_, rfl, wpAny_letOwnedTupleGo_zip (s := { s with heap := h' }) z' fun h'' z'' sb => ?_⟩
    have tT2 : h''.get? s.heap.objs.size = some { cls := .type "tuple", data := .seq #[u, u2] } := (sb.2 _ (Nat.ne_of_gt zl)).trans tT
    have new : ObjOk X.prog X.w (upd H s.heap.objs.size (.tup [x, y])) h'' s.heap.objs.size (.tup [x, y]) :=
      ⟨by show 2 ≤ sizeLine; decide, [u, u2], .cons ru (.cons ru2 .nil), ⟨_, tT2, rfl, _, rfl⟩⟩
    have J := I.turnedNew (t' := s.toks) (ch := [z, U, V1, i1, i2]) (fun c o hb e => (sb.2 c (fun y => hb (by simp [y]))).trans (hk c o (fun y => hb (by simp [y])) (fun y => hb (by simp [y])) (fun y => hb (by simp [y])) (fun y => hb (by simp [y])) e)) hf (Nat.le_refl _) new
    refine ⟨.ref s.heap.objs.size, _, J, rfl, ⟨_, x, y, rfl, I.hok.fresh (Nat.le_refl _), rfl, fun l hl => by rw [kq_inj I hl hqx]; exact hx, fun l hl => by rw [kq_inj I hl hqy]; exact hy⟩, ⟨z'', ?_, ⟨u, u2, ?_⟩, ?_, ?_⟩, fun c hcm => ?_⟩
    · exact (sb.2 _ ap.TIz).trans (hk _ _ ap.TIz ap.TITO ap.TIi1 ap.TIi2 e2)
    · exact (sb.2 _ ap.TOz).trans t'
    · exact d1.at fun o e => (sb.2 _ ap.i1z).trans e
    · exact d2.at fun o e => (sb.2 _ ap.i2z).trans e
    · have lt : c < s.heap.objs.size := by
        rcases e4.obj with ⟨o4, v4, f4, _⟩
        rcases e5.obj with ⟨o5, v5, f5, _⟩
        have cs : c = z ∨ c = U ∨ c = V1 ∨ c = i1 ∨ c = i2 := by simpa using hcm
        rcases cs with rfl | rfl | rfl | rfl | rfl
        · exact zl
        · exact Heap.lt_size e2
        · exact Heap.lt_size e3
        · exact Heap.lt_size f4
        · exact Heap.lt_size f5
      rw [upd_ne (Nat.ne_of_lt lt)]
      exact (hf c hcm).1
  done := by
    intro X hP hw hK hc i pins s σ H E I hf st hg
    subst hP hw hK
    rcases st with ⟨e1, e2, ⟨x0, y0, e3⟩, e4, e5⟩
    rcases hg with ⟨xs, ys, hqx, hqy, fin⟩
    rcases kq_at I hqx with ⟨its, rv, sl⟩
    rcases kq_at I hqy with ⟨its2, rv2, sm⟩
    have l1 := rv.length
    have l2 := rv2.length
    have he : its.toArray[i]? = none ∨ its2.toArray[i]? = none := fin.imp (fun y => by simp; omega) fun y => by simp; omega
    exact zipk_stop (I.ok.hd hc) ap e1 e2 e3 e4 e5 sl sm he fun h' hk => ⟨rfl, I.turnedL (t' := s.toks) (ch := [z, U, V1, i1, i2]) (fun c o hb e =>
      hk c o (fun y => hb (by simp [y])) (fun y => hb (by simp [y])) (fun y => hb (by simp [y])) (fun y => hb (by simp [y])) e) hf⟩
  self := fun A i s Q E st h => wpAny_pyIter_zip st.1 h
def tiZk (p q : Bool) (K : PySem.W.Frag) (ta : TA) : TI := fun σ H R => ta σ H fun vs H1 => ∃ a b xs ys, vs = [.ref a, .ref b] ∧ Qk p K H1 a xs ∧ Qk q K H1 b ys ∧ R (Izk p q K a b) H1
theorem pi_zipk (p q : Bool) {e e2 : Expr} {ta : TA} {pz pos tpos : Pos} {elts : List Expr} {kk : Nat} (hg : Gl X "zip") (hm : X.mg "zip" = none) (ha : PA X [e, e2] ta)
    (hs : starEach [e, e2] X.env = (false, eval e X.env) :: starEach [e2] X.env) (hpl : (backTo pos (starEach [e2] X.env)).any (·.1) = false) :
    PI X (.Tuple elts kk tpos) (.Call (.Name "zip" pz) [e, e2] [] pos) (tiZk p q X.K ta) := by
  refine ⟨fun pins s σ H R I h => PyProof.Rows.Call_ (ld_blt I hg hm PyProof.Rows.boot_zip (PyProof.Rows.callWith_type1 (thn (ha.run pos pins s σ H _ I h) fun us s1 h1 => ?_) hs hpl))⟩
  rcases h1 with ⟨vs, H1, I1, r1, a, b, xs, ys, rfl, hqx, hqy, hR⟩
  cases r1 with
  | cons r rr =>
    cases rr with
    | cons r' rr =>
      cases rr
      cases r
      cases r'
      rcases kq_at I1 hqx with ⟨its, rv, sl⟩
      rcases kq_at I1 hqy with ⟨its2, rv2, sm⟩
      refine call_zipk sl sm fun h' b1 b2 b3 b4 b5 hsz hk => wpAny_pyIter_zip b1 ?_
      refine ⟨s1.heap.objs.size + 4, [s1.heap.objs.size + 4, s1.heap.objs.size + 2, s1.heap.objs.size + 3, s1.heap.objs.size, s1.heap.objs.size + 1], _, _, H1, rfl, I1.kept (t' := s1.toks) hk, turn_zipk (PySem.W.ktu_apart s1.heap.objs.size a b sl.lt sm.lt), ⟨b1, b2, ⟨_, _, b3⟩, b4, b5⟩, fun c hcm => ?_, hR⟩
      have cs : c = s1.heap.objs.size + 4 ∨ c = s1.heap.objs.size + 2 ∨ c = s1.heap.objs.size + 3 ∨ c = s1.heap.objs.size ∨ c = s1.heap.objs.size + 1 := by simpa using hcm
      have le : s1.heap.objs.size ≤ c := by
        rcases cs with z | z | z | z | z
        · rw [z]; exact Nat.le_add_right _ _
        · rw [z]; exact Nat.le_add_right _ _
        · rw [z]; exact Nat.le_add_right _ _
        · rw [z]; exact Nat.le_refl _
        · rw [z]; exact Nat.le_add_right _ _
      exact I1.fpOk le (I1.hok.fresh le)
end
section
variable {X : Cx} {W : WX} {ρ : List Slot} {T U A B : Type} [Rp T] [Rp U] [Rp A] [Rp B] {a c tg : Expr} {pos : Pos}
theorem sqlSame {K : PySem.W.Frag} {H H' : Hp} {a : Addr} {xs : List V} (e : Same H H') (h : SqL K H a xs) : SqL K H' a xs := by
  rcases h with (h | ⟨o, h⟩) | h
  · exact .inl (.inl (e _ _ h))
  · exact .inl (.inr ⟨o, e _ _ h⟩)
  · exact .inr h
theorem Qk.same {k : Bool} {K : PySem.W.Frag} {H H' : Hp} {a : Addr} {xs : List V} (s : Same H H') (h : Qk k K H a xs) : Qk k K H' a xs := by
  cases k with
  | true => exact SqT.same s h
  | false => exact sqlSame s h
/-- the picture of x is a list or a tuple of f x -/
def Pic (k : Bool) (f : A → List T) : Prop := ∀ (K : PySem.W.Frag) (H : Hp) (v : V) (x : A), rp K H v x → ∃ a vs, v = .ref a ∧ Qk k K H a vs ∧ RpAll K H vs (f x)
theorem i_zipk (k1 k2 : Bool) {f : A → List T} {f2 : B → List U} (pf : Pic k1 f) (pf2 : Pic k2 f2) {m : Res A} {mc : Res B} {p : Pos} {elts : List Expr} {kk : Nat} {tpos : Pos} (h : EG X W true ρ a m) (h2 : EG X W true ρ c mc) (hm : X.mg "zip" = none) (hg : Gl X "zip")
    (he : starEach (a :: [c]) X.env = (false, eval a X.env) :: starEach [c] X.env) (he2 : starEach (c :: []) X.env = (false, eval c X.env) :: starEach [] X.env) (hpl : (backTo pos (starEach [c] X.env)).any (·.1) = false) :
    IJ X W ρ (.Tuple elts kk tpos) (.Call (.Name "zip" p) [a, c] [] pos) (m.bind fun xs => mc.bind fun ys => .ok ((f xs).zip (f2 ys))) := by
  obtain ⟨t, p, q⟩ := h.ex
  obtain ⟨tc, pc, qc⟩ := h2.ex
  refine ⟨_, pi_zipk k1 k2 hg hm (pa_cons p (pa_cons pc pa_nil he2) he) he hpl, fun S own σ H R rs hp => q S own σ H _ rs (hp.bind.imp (fun xs hx H1 v s1 r => qc S own σ H1 _ (rs.mono s1) (hx.bind.imp (fun ys hy H' u s2 r2 => ?_) fun _ z => z.mono s1)) fun _ z => z)⟩
  obtain ⟨a, vs, rfl, e1, e2⟩ := pf _ _ _ _ r
  obtain ⟨b, us, rfl, e3, e4⟩ := pf2 _ _ _ _ r2
  have e1 := Qk.same (hide_same s2) e1
  have e2 := RpAll.mono (hide_same s2) e2
  have s := s1.trans s2
  have hlen : ((f xs).zip (f2 ys)).length = min vs.length us.length := by rw [List.length_zip, e2.length, e4.length]
  refine ⟨a, b, vs, us, rfl, Qk.same hide_sub e1, Qk.same hide_sub e3, hy _ H' s ⟨fun i H2 hi s2 => ?_, fun H2 s2 => ?_, fun i H2 v H3 x B2 ei s2 hd hyy => ?_⟩⟩
  · have h1 : i < vs.length := by rw [hlen] at hi; omega
    have h2 : i < us.length := by rw [hlen] at hi; omega
    exact ⟨vs, us, vs[i], us[i], Qk.same s2 e1, Qk.same s2 e3, List.getElem?_eq_getElem h1, List.getElem?_eq_getElem h2⟩
  · exact ⟨vs, us, Qk.same s2 e1, Qk.same s2 e3, by rw [hlen]; omega⟩
  · obtain ⟨Tt, x1, y1, rfl, hT, rfl, f1, f2⟩ := hyy
    rw [List.getElem?_zip_eq_some] at ei
    obtain ⟨v', e5, r5⟩ := e2.get ei.1
    obtain ⟨u', e6, r6⟩ := e4.get ei.2
    have f1 := f1 vs (Qk.same (s2.trans hide_sub) e1)
    have f2 := f2 us (Qk.same (s2.trans hide_sub) e3)
    rw [e5] at f1
    rw [e6] at f2
    cases f1
    cases f2
    exact pair_new hT hd (Rp.mono s2 r5) (Rp.mono s2 r6)
theorem pic_l : Pic (T := T) false (fun x : List T => x) := fun K H v x ⟨a, vs, e, h1, h2⟩ => ⟨a, vs, e, .inl (.inl h1), h2⟩
theorem pic_t : Pic (T := T) true (fun x : Tup T => x.l) := fun K H v x ⟨a, vs, e, h1, h2⟩ => ⟨a, vs, e, h1, h2⟩
/-- a type whose values are lists or tuples, by the value -/
class Seqn (A : Type) (T : outParam Type) [Rp A] [Rp T] where
  k : A → Bool
  f : A → List T
  pic : ∀ (K : PySem.W.Frag) (H : Hp) (v : V) (x : A), rp K H v x → ∃ a vs, v = .ref a ∧ Qk (k x) K H a vs ∧ RpAll K H vs (f x)
instance : Seqn (List T) T := ⟨fun _ => false, fun x => x, fun K H v x h => pic_l K H v x h⟩
instance : Seqn (Tup T) T := ⟨fun _ => true, fun x => x.l, fun K H v x h => pic_t K H v x h⟩
instance : Seqn (Sq T) T := ⟨fun x => x.t, fun x => x.l, fun K H v x h => by
  obtain ⟨t, l⟩ := x
  cases t with
  | true => exact pic_t K H v (Tup.mk l) h
  | false => exact pic_l K H v l h⟩
/-- a list or a tuple, the kind k known -/
structure KL (k : Bool) (T : Type) where
  l : List T
instance {k : Bool} : Rp (KL k T) where
  rp K H v x := ∃ a vs, v = .ref a ∧ Qk k K H a vs ∧ RpAll K H vs x.l
  mono {K H H' v x} s h := by
    obtain ⟨a, vs, e, h1, h2⟩ := h
    exact ⟨a, vs, e, Qk.same s h1, RpAll.mono s h2⟩
theorem pic_k {k : Bool} : Pic k (fun x : KL k T => x.l) := fun K H v x h => h
theorem eg_kl [Seqn A T] {m : Res A} (h : EG X W true ρ a m) : ∃ (k : Bool) (m' : Res (KL k T)), EG X W true ρ a m' ∧ (m.bind fun x => .ok (Seqn.f x)) = m'.bind fun x => .ok x.l := by
  cases m with
  | ok x => exact ⟨Seqn.k x, .ok ⟨Seqn.f x⟩, h.as fun K H v r => Seqn.pic K H v x r, rfl⟩
  | err z => exact ⟨true, .err z, h.asE, rfl⟩
  | bad => exact ⟨true, .bad, h.asB, rfl⟩
theorem i_zips [Seqn A T] [Seqn B U] {m : Res A} {mc : Res B} {p : Pos} {elts : List Expr} {kk : Nat} {tpos : Pos} (h : EG X W true ρ a m) (h2 : EG X W true ρ c mc) (hm : X.mg "zip" = none) (hg : Gl X "zip" := by rfl)
    (he : starEach (a :: [c]) X.env = (false, eval a X.env) :: starEach [c] X.env := by rfl) (he2 : starEach (c :: []) X.env = (false, eval c X.env) :: starEach [] X.env := by rfl) (hpl : (backTo pos (starEach [c] X.env)).any (·.1) = false := by rfl) :
    IJ X W ρ (.Tuple elts kk tpos) (.Call (.Name "zip" p) [a, c] [] pos) (m.bind fun xs => mc.bind fun ys => .ok ((Seqn.f xs : List T).zip (Seqn.f ys : List U))) := by
  obtain ⟨k1, n1, g1, q1⟩ := eg_kl (T := T) h
  obtain ⟨k2, n2, g2, q2⟩ := eg_kl (T := U) h2
  have r := i_zipk k1 k2 pic_k pic_k g1 g2 hm hg he he2 hpl (p := p) (elts := elts) (kk := kk) (tpos := tpos)
  have e : (m.bind fun xs => mc.bind fun ys => .ok ((Seqn.f xs : List T).zip (Seqn.f ys : List U))) = n1.bind fun xs => n2.bind fun ys => .ok (xs.l.zip ys.l) := by
    have e1 : (m.bind fun xs => mc.bind fun ys => .ok ((Seqn.f xs : List T).zip (Seqn.f ys : List U))) = (m.bind fun x => .ok (Seqn.f x : List T)).bind fun xs => (mc.bind fun y => .ok (Seqn.f y : List U)).bind fun ys => .ok (xs.zip ys) := by
      cases m <;> cases mc <;> rfl
    rw [e1, q1, q2]
    cases n1 <;> cases n2 <;> rfl
  rw [e]
  exact r
theorem e_tupoft {p : Pos} {ma : Res (Tup T)} (ha : EG X W true ρ a ma) (hm : X.mg "tuple" = none) (hg : Gl X "tuple" := by rfl)
    (he : starEach [a] X.env = (false, eval a X.env) :: starEach [] X.env := by rfl) (hpl : (backTo pos (starEach [] X.env)).any (·.1) = false := by rfl) : EG X W true ρ (.Call (.Name "tuple" p) [a] [] pos) (ma.bind fun xs => .ok xs) := by
  obtain ⟨ta, pa, qa⟩ := ha.ex
  refine ⟨_, pe_callTy call_tuple_of hg hm (by decide +kernel) (pa_cons pa pa_nil he) (by decide) (by decide) he hpl, fun S own σ H Q rs h => one_run (R' := fun v H2 => ∃ p ys, [v] = [V.ref p] ∧ ((SqL X.K H2 p ys ∧ ∀ l, H2 l = none → Q (.ref l) (upd H2 l (.tup ys))) ∨ (SqT X.K H2 p ys ∧ Q (.ref p) H2))) qa rs h fun xs v H2 s r1 hp => ?_⟩
  obtain ⟨a, vs, rfl, h1, r2⟩ := r1
  exact ⟨a, vs, rfl, .inr ⟨SqT.same hide_sub h1, hp _ _ s ⟨a, vs, rfl, h1, r2⟩⟩⟩
theorem e_tupofsq {p : Pos} {m : Res (Sq T)} (h : EG X W true ρ a m) (hm : X.mg "tuple" = none) (hg : Gl X "tuple" := by rfl)
    (he : starEach [a] X.env = (false, eval a X.env) :: starEach [] X.env := by rfl) (hpl : (backTo pos (starEach [] X.env)).any (·.1) = false := by rfl) : EG X W true ρ (.Call (.Name "tuple" p) [a] [] pos) (m.bind fun x => .ok (Tup.mk x.l)) := by
  cases m with
  | ok x =>
    obtain ⟨t, l⟩ := x
    cases t with
    | true => exact e_tupoft (ma := .ok (Tup.mk l)) (h.as fun _ _ _ r => r) hm hg he hpl
    | false => exact e_tupof (ma := .ok l) (EG.lg (h.as fun _ _ _ r => r)) hm hg he hpl
  | err z => exact e_tupoft (ma := (.err z : Res (Tup T))) h.asE hm hg he hpl
  | bad => exact e_tupoft (ma := (.bad : Res (Tup T))) h.asB hm hg he hpl
theorem e_sqTp {g : Bool} {x : Tup T} (h : EG X W g ρ a (.ok x)) : EG X W g ρ a (.ok (Sq.mk true x.l)) := e_sqT h
theorem e_sqLp {g : Bool} {x : List T} (h : EG X W g ρ a (.ok x)) : EG X W g ρ a (.ok (Sq.mk false x)) := e_sqL h
theorem i_sqp {x : Sq T} (h : EG X W true ρ a (.ok x)) : IJ X W ρ tg a (.ok x.l) := i_sq h
theorem e_ixsqp {x : Sq T} {i : Int} (h : EG X W true ρ a (.ok x)) (hi : EG X W true ρ c (.ok i)) (hs : PlainIx c := by exact fun _ _ => rfl) : EG X W true ρ (.Subscript a c pos) (idxM x.l i) := e_ixsq h hi hs
theorem f_listofsqp {p : Pos} {x : Sq T} (h : EG X W true ρ a (.ok x)) (hm : X.mg "list" = none) (hg : Gl X "list" := by rfl)
    (he : starEach [a] X.env = (false, eval a X.env) :: starEach [] X.env := by rfl) (hpl : (backTo pos (starEach [] X.env)).any (·.1) = false := by rfl) : FG X W ρ (.Call (.Name "list" p) [a] [] pos) (.ok x.l) := f_listofsq h hm hg he hpl
theorem e_tupofsqp {p : Pos} {x : Sq T} (h : EG X W true ρ a (.ok x)) (hm : X.mg "tuple" = none) (hg : Gl X "tuple" := by rfl)
    (he : starEach [a] X.env = (false, eval a X.env) :: starEach [] X.env := by rfl) (hpl : (backTo pos (starEach [] X.env)).any (·.1) = false := by rfl) : EG X W true ρ (.Call (.Name "tuple" p) [a] [] pos) (.ok (Tup.mk x.l)) := e_tupofsq h hm hg he hpl
theorem e_tupoftp {p : Pos} {x : Tup T} (h : EG X W true ρ a (.ok x)) (hm : X.mg "tuple" = none) (hg : Gl X "tuple" := by rfl)
    (he : starEach [a] X.env = (false, eval a X.env) :: starEach [] X.env := by rfl) (hpl : (backTo pos (starEach [] X.env)).any (·.1) = false := by rfl) : EG X W true ρ (.Call (.Name "tuple" p) [a] [] pos) (.ok x) := e_tupoft h hm hg he hpl
instance [Dat T] : Dat (Sq T) where
  toD x := match x with
    | ⟨true, l⟩ => Dat.toD (Tup.mk l)
    | ⟨false, l⟩ => Dat.toD l
  ok x := x.l.all Dat.ok
  dp {K H v x} h := by
    obtain ⟨t, l⟩ := x
    cases t with
    | true => exact Dat.dp (T := Tup T) h
    | false => exact Dat.dp (T := List T) h
  lay x h := by
    obtain ⟨t, l⟩ := x
    cases t with
    | true => exact Dat.lay (Tup.mk l) h
    | false => exact Dat.lay l h
  dep := Dat.dep T + 1
  depth x := by
    obtain ⟨t, l⟩ := x
    cases t with
    | true => exact Dat.depth (Tup.mk l)
    | false => exact Dat.depth l
  dec x y := (x.t == y.t) && decAll x.l y.l
  eqv x y := by
    obtain ⟨t, l⟩ := x
    obtain ⟨t2, l2⟩ := y
    cases t <;> cases t2
    · exact (Dat.eqv l l2).trans (by simp; rfl)
    · simp [Dat.toD, PyData.eqv]
    · simp [Dat.toD, PyData.eqv]
    · exact (Dat.eqv (Tup.mk l) (Tup.mk l2)).trans (by simp; rfl)
  iff x y := by
    obtain ⟨t, l⟩ := x
    obtain ⟨t2, l2⟩ := y
    simp [decAll_iff]
instance [Dat T] [DatT T] : DatT (Sq T) := ⟨fun xs => List.all_eq_true.mpr fun x _ => DatT.ok x⟩
instance : Ty (Sq T) := ⟨fun x => if x.t then "tuple" else "list", fun {K B H v x} h => by
  obtain ⟨t, l⟩ := x
  cases t with
  | true => exact Ty.ok (T := Tup T) (x := Tup.mk l) h
  | false => exact Ty.ok (T := List T) (x := l) h⟩
end
end Py

set_option Elab.async false
set_option linter.all false
set_option maxRecDepth 100000
set_option maxHeartbeats 4000000
/-! Py, part V: one picture for another; tuples as sequences; index, in. -/
namespace Py
open PySem PySem.Spec L2
open Rp (rp)
/-- a value that stands for x stands for f x -/
structure Up {A B : Type} [Rp A] [Rp B] (f : A → B) : Prop where
  k : ∀ (K : PySem.W.Frag) (H : Hp) (v : V) (x : A), rp K H v x → rp K H v (f x)
class NN (T : Type) [Rp T] : Prop where
  nn : ∀ {K : PySem.W.Frag} {H : Hp} {v : V} {x : T}, rp K H v x → v ≠ .non
instance : NN Int := ⟨fun h => by rw [show _ = _ from h]; intro z; cases z⟩
instance : NN Bool := ⟨fun h => by rw [show _ = _ from h]; intro z; cases z⟩
instance : NN Str := ⟨fun h => by rw [show _ = _ from h]; intro z; cases z⟩
instance {T : Type} [Rp T] : NN (List T) := ⟨fun h => by obtain ⟨a, vs, e, _⟩ := h; rw [e]; intro z; cases z⟩
instance {T : Type} [Rp T] : NN (Tup T) := ⟨fun h => by obtain ⟨a, vs, e, _⟩ := h; rw [e]; intro z; cases z⟩
instance {T : Type} [Places T] : NN T := ⟨fun h => by obtain ⟨a, vs, e, _⟩ := h; rw [e]; intro z; cases z⟩
section
variable {A B C A' B' C' D D' T : Type} [Rp A] [Rp B] [Rp C] [Rp A'] [Rp B'] [Rp C'] [Rp D] [Rp D'] [Rp T]
theorem up_id : Up (fun x : A => x) := ⟨fun _ _ _ _ h => h⟩
theorem up_T : Up (fun x : Tup T => Sq.mk true x.l) := ⟨fun _ _ _ _ h => h⟩
theorem up_L : Up (fun x : List T => Sq.mk false x) := ⟨fun _ _ _ _ h => h⟩
theorem up_D [Dat T] : Up (fun x : T => PD.mk (Dat.toD x)) := ⟨fun _ _ _ _ h => Dat.dp h⟩
theorem up_some [NN T] : Up (fun x : T => some x) := ⟨fun _ _ _ _ h => ⟨h, NN.nn h⟩⟩
theorem up_none : Up (fun _ : Unit => (none : Option T)) := ⟨fun _ _ _ _ h => h⟩
theorem RpAll.up {K : PySem.W.Frag} {H : Hp} {f : A → B} (u : Up f) : ∀ {vs : List V} {xs : List A}, RpAll K H vs xs → RpAll K H vs (xs.map f)
  | _, _, .nil => .nil
  | _, _, .cons r t => .cons (u.k _ _ _ _ r) (RpAll.up u t)
theorem up_list {f : A → B} (u : Up f) : Up (fun x : List A => x.map f) := ⟨fun K H v x ⟨a, vs, e, h1, h2⟩ => ⟨a, vs, e, h1, RpAll.up u h2⟩⟩
theorem up_tup {f : A → B} (u : Up f) : Up (fun x : Tup A => Tup.mk (x.l.map f)) := ⟨fun K H v x ⟨a, vs, e, h1, h2⟩ => ⟨a, vs, e, h1, RpAll.up u h2⟩⟩
theorem up_opt {f : A → B} (u : Up f) : Up (fun x : Option A => x.map f) := ⟨fun K H v x h => by
  cases x with
  | none => exact h
  | some y => exact ⟨u.k _ _ _ _ h.1, h.2⟩⟩
theorem up_P {f : A → A'} {g : B → B'} (u : Up f) (u2 : Up g) : Up (fun p : A × B => (f p.1, g p.2)) := ⟨fun K H v x ⟨a, vs, e, h1, h2⟩ => ⟨a, vs, e, h1, by
  cases h2 with
  | cons r1 h2 =>
    cases h2 with
    | cons r2 h2 => exact .cons (u.k _ _ _ _ r1) (.cons (u2.k _ _ _ _ r2) h2)⟩⟩
theorem up_T3 {f : A → A'} {g : B → B'} {h : C → C'} (u : Up f) (u2 : Up g) (u3 : Up h) : Up (fun p : T3 A B C => (⟨f p.a, g p.b, h p.c⟩ : T3 A' B' C')) := ⟨fun K H v x ⟨a, vs, e, h1, h2⟩ => ⟨a, vs, e, h1, by
  cases h2 with
  | cons r1 h2 =>
    cases h2 with
    | cons r2 h2 =>
      cases h2 with
      | cons r3 h2 => exact .cons (u.k _ _ _ _ r1) (.cons (u2.k _ _ _ _ r2) (.cons (u3.k _ _ _ _ r3) h2))⟩⟩
theorem up_T4 {f : A → A'} {g : B → B'} {h : C → C'} {i : D → D'} (u : Up f) (u2 : Up g) (u3 : Up h) (u4 : Up i) : Up (fun p : T4 A B C D => (⟨f p.a, g p.b, h p.c, i p.d⟩ : T4 A' B' C' D')) := ⟨fun K H v x ⟨a, vs, e, h1, h2⟩ => ⟨a, vs, e, h1, by
  cases h2 with
  | cons r1 h2 =>
    cases h2 with
    | cons r2 h2 =>
      cases h2 with
      | cons r3 h2 =>
        cases h2 with
        | cons r4 h2 => exact .cons (u.k _ _ _ _ r1) (.cons (u2.k _ _ _ _ r2) (.cons (u3.k _ _ _ _ r3) (.cons (u4.k _ _ _ _ r4) h2)))⟩⟩
/-- a tuple of like things as a sequence -/
theorem up_PT : Up (fun p : T × T => Tup.mk [p.1, p.2]) := ⟨fun K H v x ⟨a, vs, e, h1, h2⟩ => ⟨a, vs, e, h1, by
  cases h2 with
  | cons r1 h2 =>
    cases h2 with
    | cons r2 h2 => cases h2; exact .cons r1 (.cons r2 .nil)⟩⟩
end
section
variable {A B C R T U : Type} [Rp A] [Rp B] [Rp C] [Rp R] [Rp T] [Rp U] {X : Cx} {W : WX} {g : Bool} {ρ : List Slot} {a b c e : Expr} {pos : Pos} {lv : Nat}
theorem e_up {f : A → B} {m : Res A} (u : Up f) (h : EG X W g ρ e m) : EG X W g ρ e (m.bind fun x => .ok (f x)) := by
  cases m with
  | ok x => exact h.as fun K H v r => u.k K H v x r
  | err z => exact h.asE
  | bad => exact h.asB
theorem e_upp {f : A → B} {x : A} (u : Up f) (h : EG X W g ρ e (.ok x)) : EG X W g ρ e (.ok (f x)) := e_up u h
theorem l_up {f : A → B} {m : Res (List A)} (u : Up f) (h : LG X W ρ e m) : LG X W ρ e (m.bind fun x => .ok (x.map f)) := by
  obtain ⟨t, p, q⟩ := h.ex
  exact ⟨t, p, fun S own σ H Q rs hp => q S own σ H Q rs (hp.bind.imp (fun x hx H' a vs s e1 e2 => hx H' a vs s e1 (RpAll.up u e2)) fun _ z => z)⟩
theorem f_up {f : A → B} {m : Res (List A)} (u : Up f) (h : FG X W ρ e m) : FG X W ρ e (m.bind fun x => .ok (x.map f)) := by
  obtain ⟨t, p, q⟩ := h.ex
  exact ⟨t, p, fun S own σ H Q rs hp => q S own σ H Q rs (hp.bind.imp (fun x hx H' a vs s na e1 e2 => hx H' a vs s na e1 (RpAll.up u e2)) fun _ z => z)⟩
theorem f_upp {f : A → B} {x : List A} (u : Up f) (h : FG X W ρ e (.ok x)) : FG X W ρ e (.ok (x.map f)) := f_up u h
/-- what is there and not None -/
def getO {α : Type} : Option α → Res α
  | some x => .ok x
  | none => .bad
theorem e_getO {m : Res (Option T)} (h : EG X W g ρ e m) : EG X W g ρ e (m.bind getO) := by
  cases m with
  | ok x =>
    cases x with
    | none =>
      obtain ⟨t, p, q⟩ := h.ex
      exact ⟨t, p, fun S own σ H Q rs hp => hp.elim⟩
    | some y => exact h.as fun K H v r => r.1
  | err z => exact h.asE
  | bad => exact h.asB
theorem e_getOp {x : Option T} (h : EG X W g ρ e (.ok x)) : EG X W g ρ e (getO x) := e_getO h
/-! ### tuples -/
theorem e_tupL {es : List Expr} {A T : Type} [Rp T] {as : A → List AV} {mk : A → Tup T} {m : Res (Tup T)} {x1} (h : AJ X W g ρ es as (fun x => .ok (mk x)) m) (hp : ∀ x, as x = (mk x).l.map av := by intro _; rfl)
    (hz : ∀ x, (mk x).l.length ≤ sizeLine := by intro _; exact Nat.le_of_ble_eq_true rfl) : EG X W g ρ (.Tuple es x1 pos) m := by
  obtain ⟨t, p, q⟩ := h.ex
  refine ⟨_, pe_tup p, fun S own σ H Q rs hP => q S own σ H _ _ _ rs (fun e z => z) hP fun x vs H' s r hx => ?_⟩
  rw [hp] at r
  have r2 := args_all r
  refine ⟨by rw [r2.length]; exact hz x, fun p np => ?_⟩
  have s2 : Same H' (upd H' p (.tup vs)) := same_upd np
  refine hx _ _ (s.trans s2) ⟨p, vs, rfl, .inl (.inl ?_), ?_⟩
  · rw [hide_out fun z => (rs.mono s).dom p (reg_sub p z) np, upd_same]
  · exact RpAll.mono (hide_same s2) r2
def catT {α : Type} (x y : Tup α) : Res (Tup α) := guardR (decide (x.l.length + y.l.length ≤ sizeLine)) (.ok ⟨x.l ++ y.l⟩)
theorem e_catT {ma mb : Res (Tup T)} (ha : EG X W g ρ a ma) (hb : EG X W g ρ b mb) : EG X W g ρ (.BinOp a .Add b pos) (ma.bind fun x => mb.bind fun y => catT x y) := by
  obtain ⟨ta, pa, qa⟩ := ha.ex
  obtain ⟨tb, pb, qb⟩ := hb.ex
  refine ⟨_, pe_op op_catA pa pb, fun S own σ H Q rs h => two_run (R' := fun v u H2 => rCatA X.K v u H2 Q) qa qb rs h fun x y v u H2 s r1 r2 hp => ?_⟩
  obtain ⟨p1, vs, rfl, a1, a2⟩ := r1
  obtain ⟨p2, us, rfl, b1, b2⟩ := r2
  obtain ⟨h1, hy⟩ := hp.guard
  refine ⟨p1, p2, vs, us, rfl, rfl, SqT.same hide_sub a1, SqT.same hide_sub b1, by rw [a2.length, b2.length]; exact of_decide_eq_true h1, ?_, ?_, ?_⟩
  · intro z
    subst z
    refine hy H2 _ s ⟨p2, us, rfl, b1, ?_⟩
    have : x.l = [] := by have := a2.length; cases hx : x.l with | nil => rfl | cons _ _ => rw [hx] at this; simp at this
    rw [this]; exact b2
  · intro z z2
    subst z2
    refine hy H2 _ s ⟨p1, vs, rfl, a1, ?_⟩
    have : y.l = [] := by have := b2.length; cases hx : y.l with | nil => rfl | cons _ _ => rw [hx] at this; simp at this
    rw [this, List.append_nil]; exact a2
  · intro _ _ p np
    have s2 : Same H2 (upd H2 p (.tup (vs ++ us))) := same_upd np
    refine hy _ _ (s.trans s2) ⟨p, vs ++ us, rfl, .inl (.inl ?_), RpAll.mono (hide_same s2) (a2.append b2)⟩
    rw [hide_out fun z => (rs.mono s).dom p (reg_sub p z) np, upd_same]
theorem e_catTp {x y : Tup T} (ha : EG X W g ρ a (.ok x)) (hb : EG X W g ρ b (.ok y)) : EG X W g ρ (.BinOp a .Add b pos) (catT x y) := e_catT ha hb
instance [Rp T] : Len (Sq T) where
  len xs := .ok (xs.l.length : Int)
  ok {K B H v x Q} r h := by
    obtain ⟨t, l⟩ := x
    cases t with
    | true => exact Len.ok (T := Tup T) (x := Tup.mk l) r h
    | false => exact Len.ok (T := List T) (x := l) r h
theorem e_lensq {p : Pos} {x : Sq T} (ha : EG X W true ρ a (.ok x)) (hm : X.mg "len" = none) (hg : Gl X "len" := by rfl)
    (he : starEach [a] X.env = (false, eval a X.env) :: starEach [] X.env := by rfl) (hpl : (backTo pos (starEach [] X.env)).any (·.1) = false := by rfl) : EG X W g ρ (.Call (.Name "len" p) [a] [] pos) (.ok (x.l.length : Int)) := e_len ha hm hg he hpl
theorem i_zipsp (A B : Type) [Rp A] [Rp B] [Seqn A T] [Seqn B U] {x : A} {y : B} {p : Pos} {elts : List Expr} {kk : Nat} {tpos : Pos} (h : EG X W true ρ a (.ok x)) (h2 : EG X W true ρ c (.ok y)) (hm : X.mg "zip" = none) (hg : Gl X "zip" := by rfl)
    (he : starEach (a :: [c]) X.env = (false, eval a X.env) :: starEach [c] X.env := by rfl) (he2 : starEach (c :: []) X.env = (false, eval c X.env) :: starEach [] X.env := by rfl) (hpl : (backTo pos (starEach [c] X.env)).any (·.1) = false := by rfl) :
    IJ X W ρ (.Tuple elts kk tpos) (.Call (.Name "zip" p) [a, c] [] pos) (.ok ((Seqn.f x : List T).zip (Seqn.f y : List U))) := i_zips h h2 hm hg he he2 hpl
/-! ### index, in -/
class Flt (T : Type) [Rp T] [DecidableEq T] extends Scal T where
  fl : ∀ x : T, flatV (toV x) = true
  eq : ∀ x y : T, eqV (toV x) (toV y) = decide (x = y)
instance : Flt Int := { fl := fun _ => rfl, eq := fun x y => by simp [Scal.toV, eqV]; rfl }
instance : Flt Str := { fl := fun _ => rfl, eq := fun x y => by simp [Scal.toV, eqV]; rfl }
instance : Flt Bool := { fl := fun _ => rfl, eq := fun x y => by simp [Scal.toV, eqV]; rfl }
def indexM {α : Type} [DecidableEq α] (xs : List α) (x : α) : Res Int := match xs.findIdx? (fun y => decide (y = x)) with
  | some j => .ok ((j : Nat) : Int)
  | none => .bad
theorem flat_all [DecidableEq T] [Flt T] {K : PySem.W.Frag} {H : Hp} : ∀ {vs : List V} {xs : List T}, RpAll K H vs xs → vs = xs.map Scal.toV
  | _, _, .nil => rfl
  | _, _, .cons r t => by rw [List.map_cons, ← flat_all t, Scal.rel r]
theorem flat_map [DecidableEq T] [Flt T] (xs : List T) : (xs.map Scal.toV).all flatV = true := by
  rw [List.all_map]
  exact List.all_eq_true.mpr fun x _ => Flt.fl x
theorem in_map [DecidableEq T] [Flt T] (x : T) (xs : List T) : inV (Scal.toV x) (xs.map Scal.toV) = decide (x ∈ xs) := by
  unfold inV
  induction xs with
  | nil => simp
  | cons y r ih =>
    rw [List.map_cons, List.any_cons, ih, Flt.eq]
    by_cases h : y = x
    · subst h; simp
    · have h2 : ¬ x = y := fun z => h z.symm
      simp [h, h2]
theorem e_lindex [DecidableEq T] [Flt T] {ml : Res (List T)} {mx : Res T} {p2 : Pos} (hl : LG X W ρ a ml) (hx : EG X W true ρ e mx)
    (hbase : attributeBase a "index" X.env (eval a X.env) = eval a X.env := by rfl) (hline : (p2.endLine == pos.line) = true := by rfl) (hst : starEach (e :: []) X.env = (false, eval e X.env) :: starEach [] X.env := by rfl)
    (hpl : (backTo pos (starEach [] X.env)).any (·.1) = false := by rfl)
    (hfew : ((backTo pos (starEach (e :: []) X.env)).all (fun x => !x.1) && (backToKw pos (keywordEach [] X.env)).all (fun x => x.1.isSome) && decide ((e :: []).length + ([] : List Keyword).length + (if ([] : List Keyword).isEmpty then 0 else 1) < 30)) = true := by rfl) :
    EG X W g ρ (.Call (.Attribute a "index" p2) [e] [] pos) (ml.bind fun xs => mx.bind fun x => indexM xs x) := by
  obtain ⟨ta, pa, qa⟩ := hl.ex
  obtain ⟨tb, pb, qb⟩ := hx.ex
  refine ⟨_, pe_bm PySem.F.plainAttrs_list PySem.F.slot_list_index PySem.F.type_list_index mt_index pa (pa_cons pb pa_nil hst) hbase hfew hline hst hpl, fun S own σ H Q rs h => ?_⟩
  refine qa S own σ H _ rs (h.bind.imp (fun xs hxs H1 p vs s1 e1 e2 => ?_) fun _ z => z)
  refine ⟨.inl ⟨rfl, vs, .inl (.inl e1)⟩, ?_⟩
  refine qb S own σ H1 _ (rs.mono s1) (hxs.bind.imp (fun x hx H2 v s2 r => ?_) fun _ z => z.mono s1)
  have e3 := flat_all e2
  subst e3
  have r' := Scal.rel r
  subst r'
  unfold indexM at hx
  split at hx
  · rename_i j hj
    obtain ⟨h1, h2, h3⟩ := List.findIdx?_eq_some_iff_getElem.mp hj
    refine ⟨p, xs.map Scal.toV, Scal.toV x, j, Scal.toV xs[j], rfl, rfl, .inl (.inl (s2 _ _ e1)), Flt.fl x, flat_map xs, by rw [List.getElem?_map, List.getElem?_eq_getElem h1]; rfl, by rw [Flt.eq]; exact h2, fun m z' hm hz => ?_, hx H2 _ (s1.trans s2) rfl⟩
    rw [List.getElem?_map, List.getElem?_eq_getElem (by omega)] at hz
    cases hz
    rw [Flt.eq]
    exact Bool.eq_false_iff.mpr (h3 m hm)
  · exact hx.elim
theorem e_inl [DecidableEq T] [Flt T] {ma : Res T} {mb : Res (List T)} (ha : EG X W true ρ a ma) (hb : EG X W g ρ b mb) (hm : behindInMarks .In b = false := by rfl) : CJ X W ρ .In a b (ma.bind fun x => mb.bind fun y => .ok (decide (x ∈ y))) :=
  e_cmpR (f := fun x y => .ok (decide (x ∈ y))) op_in_seq hm ha hb (fun _ _ H x y v u Q r1 r2 h => by
    obtain ⟨p, vs, rfl, e1, e2⟩ := r2
    have e3 := flat_all e2
    subst e3
    have r' := Scal.rel r1
    subst r'
    refine ⟨p, _, rfl, .inl (.inl (.inl (hide_sub _ _ e1))), Flt.fl x, flat_map y, ?_⟩
    rw [in_map]
    exact h)
theorem e_ninl [DecidableEq T] [Flt T] {ma : Res T} {mb : Res (List T)} (ha : EG X W true ρ a ma) (hb : EG X W g ρ b mb) (hm : behindInMarks .NotIn b = false := by rfl) : CJ X W ρ .NotIn a b (ma.bind fun x => mb.bind fun y => .ok (!decide (x ∈ y))) :=
  e_cmpR (f := fun x y => .ok (!decide (x ∈ y))) op_notIn_seq hm ha hb (fun _ _ H x y v u Q r1 r2 h => by
    obtain ⟨p, vs, rfl, e1, e2⟩ := r2
    have e3 := flat_all e2
    subst e3
    have r' := Scal.rel r1
    subst r'
    refine ⟨p, _, rfl, .inl (.inl (.inl (hide_sub _ _ e1))), Flt.fl x, flat_map y, ?_⟩
    rw [in_map]
    exact h)
theorem e_intup [DecidableEq T] [Flt T] {ma : Res T} {mb : Res (Tup T)} (ha : EG X W true ρ a ma) (hb : EG X W g ρ b mb) (hm : behindInMarks .In b = false := by rfl) : CJ X W ρ .In a b (ma.bind fun x => mb.bind fun y => .ok (decide (x ∈ y.l))) :=
  e_cmpR (f := fun x y => .ok (decide (x ∈ y.l))) op_in_seq hm ha hb (fun _ _ H x y v u Q r1 r2 h => by
    obtain ⟨p, vs, rfl, e1, e2⟩ := r2
    have e3 := flat_all e2
    subst e3
    have r' := Scal.rel r1
    subst r'
    refine ⟨p, _, rfl, .inr (SqT.same hide_sub e1), Flt.fl x, flat_map y.l, ?_⟩
    rw [in_map]
    exact h)
theorem e_nintup [DecidableEq T] [Flt T] {ma : Res T} {mb : Res (Tup T)} (ha : EG X W true ρ a ma) (hb : EG X W g ρ b mb) (hm : behindInMarks .NotIn b = false := by rfl) : CJ X W ρ .NotIn a b (ma.bind fun x => mb.bind fun y => .ok (!decide (x ∈ y.l))) :=
  e_cmpR (f := fun x y => .ok (!decide (x ∈ y.l))) op_notIn_seq hm ha hb (fun _ _ H x y v u Q r1 r2 h => by
    obtain ⟨p, vs, rfl, e1, e2⟩ := r2
    have e3 := flat_all e2
    subst e3
    have r' := Scal.rel r1
    subst r'
    refine ⟨p, _, rfl, .inr (SqT.same hide_sub e1), Flt.fl x, flat_map y.l, ?_⟩
    rw [in_map]
    exact h)
end
end Py

set_option Elab.async false
set_option linter.all false
set_option maxRecDepth 100000
set_option maxHeartbeats 1000000
/-! Py, part M: the plain side. -/
namespace Py
open PySem PySem.Spec L2
open Rp (rp)
/-- it answers, and so -/
abbrev Ok {α : Type} (m : Res α) (Q : α → Prop) : Prop := Post m Q fun _ => False
section
variable {α β γ S T U : Type} {E : Ex → Prop} {Q Q' : β → Prop}
theorem ok_eq {m : Res α} {x : α} (h : Ok m (· = x)) : m = .ok x := by
  cases m with
  | ok a => exact congrArg Res.ok h
  | err e => exact h.elim
  | bad => exact h.elim
theorem Ok.of {m : Res α} {x : α} (h : m = .ok x) : Ok m (· = x) := by subst h; exact rfl
theorem wp {m : Res α} {f : α → Res β} {P : α → Prop} (h : Post m P E) (k : ∀ a, P a → Post (f a) Q E) : Post (m.bind f) Q E := by
  cases m with
  | ok a => exact k a h
  | err e => exact h
  | bad => exact h
theorem wpe {m : Res α} {f : α → Res β} {a : α} (h : m = .ok a) (k : Post (f a) Q E) : Post (m.bind f) Q E := by subst h; exact k
theorem Post.mono {m : Res α} {P P' : α → Prop} (h : Post m P E) (k : ∀ a, P a → P' a) : Post m P' E := h.imp k fun _ z => z
theorem Post.lift {m : Res α} {P : α → Prop} (h : Ok m P) : Post m P E := h.imp (fun _ z => z) fun _ z => z.elim
theorem Post.and {m : Res α} {P P' : α → Prop} (h : Post m P E) (k : Post m P' E) : Post m (fun a => P a ∧ P' a) E := by
  cases m with
  | ok a => exact ⟨h, k⟩
  | err e => exact h
  | bad => exact h
/-- bind at an answer, not by rfl (simp's rfl steps cost the kernel) -/
theorem bok (a : α) (f : α → Res β) : (Res.ok a).bind f = f a := by
  have h : ∀ m : Res α, m = .ok a → m.bind f = f a := by intro m h; subst h; rfl
  exact h _ rfl
theorem guardR_ok {c : Bool} {m : Res α} (h : c = true) : guardR c m = m := by subst h; rfl
/-! numbers -/
theorem log2_lt {n k : Nat} (h : n < 2 ^ k) (hk : 0 < k) : n.log2 < k := by
  by_cases z : n = 0
  · subst z; simpa using hk
  · exact (Nat.log2_lt z).2 h
theorem mul_big {x y : Int} {a b : Nat} (hx : x.natAbs < 2 ^ a) (hy : y.natAbs < 2 ^ b) (h : a + b ≤ 1000000) : mulM x y = .ok (x * y) := by
  have c : mulOk x y = true := by
    unfold mulOk
    by_cases a0 : a = 0
    · subst a0
      have : x = 0 := by omega
      subst this
      rfl
    by_cases b0 : b = 0
    · subst b0
      have : y = 0 := by omega
      subst this
      simp
    have h1 := log2_lt hx (by omega)
    have h2 := log2_lt hy (by omega)
    have : x.natAbs.log2 + y.natAbs.log2 < 1000000 := by omega
    simp [this]
  exact guardR_ok c
theorem mul_l {x y : Int} (h : x.natAbs < 18446744073709551616) : mulM x y = .ok (x * y) := by
  have c : mulOk x y = true := by
    unfold mulOk
    have h1 : -(2 ^ 64) < x := by omega
    have h2 : x < 2 ^ 64 := by omega
    rw [decide_eq_true h1, decide_eq_true h2]; rfl
  exact guardR_ok c
theorem mul_r {x y : Int} (h : y.natAbs < 18446744073709551616) : mulM x y = .ok (x * y) := by
  have c : mulOk x y = true := by
    unfold mulOk
    have h1 : -(2 ^ 64) < y := by omega
    have h2 : y < 2 ^ 64 := by omega
    rw [decide_eq_true h1, decide_eq_true h2]
    cases (decide (-(2 ^ 64) < x) && decide (x < 2 ^ 64)) <;> rfl
  exact guardR_ok c
theorem mod_ok {x y : Int} (h : y ≠ 0) : modM x y = .ok (x.fmod y) := guardR_ok (decide_eq_true h)
theorem mod_pos {x y : Int} (h : 0 < y) : modM x y = .ok (x % y) := by rw [mod_ok (by omega), Int.fmod_eq_emod_of_nonneg _ (by omega)]
theorem div_ok {x y : Int} (h : y ≠ 0) {k : Nat} (h2 : y.natAbs < 2 ^ k) (hk : k ≤ 9000) : divM x y = .ok (x.fdiv y) := by
  have k0 : 0 < k := by
    cases k with
    | zero => omega
    | succ n => omega
  have h3 := log2_lt h2 k0
  exact guardR_ok (by unfold divOk; rw [decide_eq_true h, decide_eq_true (show y.natAbs.log2 < 9000 by omega)]; rfl)
theorem div_pos {x y : Int} (h : 0 < y) {k : Nat} (h2 : y.natAbs < 2 ^ k) (hk : k ≤ 9000) : divM x y = .ok (x / y) := by
  rw [div_ok (by omega) h2 hk, Int.fdiv_eq_ediv_of_nonneg _ (by omega)]
theorem div_s {x y : Int} (h : 0 < y) (h2 : y < 4294967296) : divM x y = .ok (x / y) := div_pos h (k := 32) (by omega) (by omega)
theorem pow_ok {x y : Int} (h : 0 ≤ y) (h2 : y ≤ 1000000) (h3 : x.natAbs < 18446744073709551616) : powM x y = .ok (x ^ y.toNat) :=
  guardR_ok (by rw [decide_eq_true h, decide_eq_true h2, decide_eq_true (show x.natAbs < 2 ^ 64 by omega)]; rfl)
theorem inRange_of {j : Int} (h : -4611686018427387904 ≤ j) (h2 : j < 4611686018427387904) : inRange j = true := by
  unfold inRange
  rw [decide_eq_true (show -(2 ^ 62) ≤ j by omega), decide_eq_true (show j < 2 ^ 62 by omega)]; rfl
theorem rng_mem {lo hi x : Int} (h : x ∈ rng lo hi) : lo ≤ x ∧ x < hi := by
  obtain ⟨i, hi', e⟩ := List.mem_map.mp h
  have := List.mem_range.mp hi'
  omega
/-! lists -/
theorem idx_ok {xs : List α} {i : Int} (h : 0 ≤ i) (h2 : i < xs.length) : idxM xs i = .ok (xs[i.toNat]'(by omega)) := by
  unfold idxM atI ixN
  rw [if_pos h, if_pos h2]
  show (match xs[i.toNat]? with | some x => Res.ok x | none => .bad) = _
  rw [List.getElem?_eq_getElem (by omega)]
theorem idx_all {xs : List α} {P : α → Prop} {i : Int} (h : 0 ≤ i) (h2 : i < xs.length) (k : ∀ x ∈ xs, P x) : Post (idxM xs i) P E := by
  rw [idx_ok h h2]
  exact k _ (List.getElem_mem _)
theorem idx_nat {xs : List α} {n : Nat} (h : n < xs.length) : idxM xs (n : Int) = .ok xs[n] := idx_ok (by omega) (by omega)
theorem apn_ok {xs : List α} {x : α} (h : xs.length < sizeLine) : appM xs x = .ok (xs ++ [x]) := guardR_ok (decide_eq_true h)
theorem cat_ok {xs ys : List α} (h : xs.length + ys.length ≤ sizeLine) : catM xs ys = .ok (xs ++ ys) := guardR_ok (decide_eq_true h)
theorem ipow2 {m n : Nat} (h : m ≤ n) : (2 : Int) ^ m ≤ 2 ^ n := by
  have z := Nat.pow_le_pow_right (n := 2) (by decide) h
  have e : ∀ k : Nat, (2 : Int) ^ k = ((2 ^ k : Nat) : Int) := fun k => by simp
  rw [e, e]; exact Int.ofNat_le.mpr z
theorem ipow10 {m n : Nat} (h : m ≤ n) : (10 : Int) ^ m ≤ 10 ^ n := by
  have z := Nat.pow_le_pow_right (n := 10) (by decide) h
  have e : ∀ k : Nat, (10 : Int) ^ k = ((10 ^ k : Nat) : Int) := fun k => by simp
  rw [e, e]; exact Int.ofNat_le.mpr z
theorem foldl_keep {P : α → Prop} {f : α → β → α} {xs : List β} {s : α} (h : P s) (k : ∀ s x, x ∈ xs → P s → P (f s x)) : P (xs.foldl f s) := by
  induction xs generalizing s with
  | nil => exact h
  | cons x r ih => exact ih (k s x (List.mem_cons_self ..) h) fun s y hy => k s y (List.mem_cons_of_mem _ hy)
/-! loops -/
theorem forR_wp {f : S → T → Res S} {I : List T → S → Prop} {xs : List T} {s : S} {done : List T} (h : I done s) (k : ∀ d x r s, done ++ xs = d ++ x :: r → I d s → Post (f s x) (fun s' => I (d ++ [x]) s') E) : Post (forR f xs s) (fun s' => I (done ++ xs) s') E := by
  induction xs generalizing s done with
  | nil => rw [List.append_nil]; exact h
  | cons x r ih =>
    refine wp (k done x r s rfl h) fun s' h' => ?_
    have z := ih (done := done ++ [x]) h' fun d y q s e => k d y q s (by rw [← e]; simp)
    rw [List.append_assoc] at z
    exact z
/-- a fold whose steps keep I -/
theorem forR_inv {f : S → T → Res S} {I : S → Prop} {xs : List T} {s : S} (h : I s) (k : ∀ x s, x ∈ xs → I s → Post (f s x) I E) : Post (forR f xs s) I E :=
  forR_wp (I := fun _ s => I s) (done := []) h fun d x r s e hs => k x s (by have e2 : xs = d ++ x :: r := e; rw [e2]; simp) hs
theorem forR_eq {f : S → T → Res S} {g : S → T → S} : ∀ {xs : List T} {s : S}, (∀ s x, x ∈ xs → f s x = .ok (g s x)) → forR f xs s = .ok (xs.foldl g s)
  | [], s, h => rfl
  | x :: r, s, h => by
    show (f s x).bind _ = _
    rw [h s x (List.mem_cons_self ..)]
    exact forR_eq fun s y hy => h s y (List.mem_cons_of_mem _ hy)
/-- a loop that only looks, and finds nothing to return -/
theorem forC_look {B R : Type} {f : Unit → T → Res (Ctl Unit Unit R)} {xs : List T} (h : ∀ x ∈ xs, f () x = .ok (.nx ())) : (forC f xs () : Res (Ctl Unit B R)) = .ok (.nx ()) := by
  induction xs with
  | nil => rfl
  | cons x r ih =>
    show (f () x).bind _ = _
    rw [h x (List.mem_cons_self ..)]
    exact ih fun y hy => h y (List.mem_cons_of_mem _ hy)
theorem lcM_ok {t : T → Res Bool} {f : T → Res U} {g : T → U} {xs : List T} (h : ∀ x ∈ xs, t x = .ok true) (h2 : ∀ x ∈ xs, f x = .ok (g x)) : lcM t f xs = .ok (xs.map g) := by
  induction xs with
  | nil => rfl
  | cons x r ih =>
    show (t x).quiet.bind _ = _
    rw [h x (List.mem_cons_self ..)]
    show (f x).quiet.bind _ = _
    rw [h2 x (List.mem_cons_self ..)]
    show (lcM t f r).bind _ = _
    rw [ih (fun y hy => h y (List.mem_cons_of_mem _ hy)) (fun y hy => h2 y (List.mem_cons_of_mem _ hy))]
    rfl
theorem lcX_ok {f : T → Res U} {g : T → U} {xs : List T} (hl : xs.length ≤ sizeLine) (h2 : ∀ x ∈ xs, f x = .ok (g x)) : lcX (fun _ => Res.ok true) f xs = .ok (xs.map g) := by
  unfold lcX
  rw [guardR_ok (decide_eq_true hl)]
  exact lcM_ok (fun _ _ => rfl) h2
end
/-! what the laws compare: data of few levels -/
def lenCap : Nat := 1000000
theorem lenCap_eq : lenCap = 1000000 := rfl
def Dsh : Nat → PyData → Prop
  | 0, _ => False
  | n + 1, .list xs => xs.length < lenCap ∧ ∀ x ∈ xs, Dsh n x
  | n + 1, .tuple xs => xs.length < lenCap ∧ ∀ x ∈ xs, Dsh n x
  | _ + 1, .none => True
  | _ + 1, .bool _ => True
  | _ + 1, .int _ => True
  | _ + 1, .str x => PySem.PyData.strOk x = true
  | _ + 1, _ => False
theorem dsh_list {T : Type} [Rp T] [Dat T] {n : Nat} {xs : List T} (h : xs.length < lenCap) (k : ∀ x ∈ xs, Dsh n (Dat.toD x)) : Dsh (n + 1) (Dat.toD xs) := by
  refine ⟨by rw [List.length_map]; exact h, fun d hd => ?_⟩
  obtain ⟨x, hx, rfl⟩ := List.mem_map.mp hd
  exact k x hx
theorem dsh_tup {T : Type} [Rp T] [Dat T] {n : Nat} {xs : Tup T} (h : xs.l.length < lenCap) (k : ∀ x ∈ xs.l, Dsh n (Dat.toD x)) : Dsh (n + 1) (Dat.toD xs) := by
  refine ⟨by rw [List.length_map]; exact h, fun d hd => ?_⟩
  obtain ⟨x, hx, rfl⟩ := List.mem_map.mp hd
  exact k x hx
theorem dsh_pair {A B : Type} [Rp A] [Rp B] [Dat A] [Dat B] {n : Nat} {p : A × B} (h1 : Dsh n (Dat.toD p.1)) (h2 : Dsh n (Dat.toD p.2)) : Dsh (n + 1) (Dat.toD p) := by
  refine ⟨by show 2 < lenCap; rw [lenCap_eq]; omega, fun d hd => ?_⟩
  rcases List.mem_cons.mp hd with rfl | hd
  · exact h1
  · rcases List.mem_cons.mp hd with rfl | hd
    · exact h2
    · cases hd
theorem eqvD_int (i : Int) : eqvD ⟨.int i⟩ ⟨.int i⟩ = .ok true := by
  unfold eqvD
  have h : SeqAt.shaped (.int i) = true := dat_shaped (T := Int) (by decide) i rfl
  rw [guardR_ok (by rw [show SeqAt.shaped (PD.mk (.int i)).d = true from h]; rfl)]
  show Res.ok (PyData.eqv (.int i) (.int i)) = _
  rw [show PyData.eqv (.int i) (.int i) = Dat.dec i i from Dat.eqv i i, (Dat.iff i i).mpr rfl]
theorem eqvD_str {i : Str} (h0 : PySem.PyData.strOk i = true) : eqvD ⟨.str i⟩ ⟨.str i⟩ = .ok true := by
  unfold eqvD
  have h : SeqAt.shaped (.str i) = true := dat_shaped (T := Str) (by decide) i h0
  rw [guardR_ok (by rw [show SeqAt.shaped (PD.mk (.str i)).d = true from h]; rfl)]
  show Res.ok (PyData.eqv (.str i) (.str i)) = _
  rw [show PyData.eqv (.str i) (.str i) = Dat.dec i i from Dat.eqv i i, (Dat.iff i i).mpr rfl]
theorem idxD_list {xs : List PyData} {i : Int} (h : 0 ≤ i) (h2 : i < xs.length) : idxD ⟨.list xs⟩ i = .ok ⟨xs[i.toNat]'(by omega)⟩ := by
  show (idxM xs i).bind _ = _
  rw [idx_ok h h2]; rfl
theorem idxD_tup {xs : List PyData} {i : Int} (h : 0 ≤ i) (h2 : i < xs.length) : idxD ⟨.tuple xs⟩ i = .ok ⟨xs[i.toNat]'(by omega)⟩ := by
  show (idxM xs i).bind _ = _
  rw [idx_ok h h2]; rfl
end Py

set_option Elab.async false
set_option linter.all false
set_option maxRecDepth 100000
set_option maxHeartbeats 1000000
/-! Py, part N: the plain side, further. -/
namespace Py
open PySem PySem.Spec L2
section
variable {α β γ S T U B R : Type} {E : Ex → Prop}
/-! places -/
def at0 {α : Type} [Inhabited α] (xs : List α) (i : Int) : α := xs.getD i.toNat default
theorem idx0 [Inhabited α] {xs : List α} {i : Int} (h : 0 ≤ i) (h2 : i < xs.length) : idxM xs i = .ok (at0 xs i) := by
  rw [idx_ok h h2]
  unfold at0
  rw [List.getD_eq_getElem?_getD, List.getElem?_eq_getElem (by omega)]
  rfl
theorem at0_mem [Inhabited α] {xs : List α} {i : Int} (h : 0 ≤ i) (h2 : i < xs.length) : at0 xs i ∈ xs := by
  unfold at0
  rw [List.getD_eq_getElem?_getD, List.getElem?_eq_getElem (by omega)]
  exact List.getElem_mem _
theorem at0_all [Inhabited α] {P : α → Prop} {xs : List α} (h : ∀ x ∈ xs, P x) (hd : P default) (i : Int) : P (at0 xs i) := by
  unfold at0
  rw [List.getD_eq_getElem?_getD]
  by_cases hi : i.toNat < xs.length
  · rw [List.getElem?_eq_getElem hi]
    exact h _ (List.getElem_mem _)
  · rw [List.getElem?_eq_none (by omega)]
    exact hd
theorem at0_nat [Inhabited α] {xs : List α} {n : Nat} (h : n < xs.length) : at0 xs (n : Int) = xs[n] := by
  unfold at0
  rw [List.getD_eq_getElem?_getD, Int.toNat_natCast, List.getElem?_eq_getElem h]
  rfl
theorem setM_ok {xs : List α} {i : Int} {x : α} (h : 0 ≤ i) (h2 : i < xs.length) : setM xs i x = .ok (xs.set i.toNat x) := by
  unfold setM ixN
  rw [if_pos h, if_pos h2]
theorem rng_len (n : Nat) : (rng 0 (n : Int)).length = n := by rw [rng_length]; omega
theorem rng_at {n i : Nat} (h : i < (rng 0 (n : Int)).length) : (rng 0 (n : Int))[i] = (i : Int) := by
  have := rng_get (List.getElem?_eq_getElem h)
  omega
theorem rng_nat {n : Int} (h : 0 ≤ n) : rng 0 n = rng 0 (n.toNat : Int) := by rw [Int.toNat_of_nonneg h]
/-- a walk by places is a walk -/
theorem rng_map [Inhabited α] (xs : List α) (f : α → β) : (rng 0 (xs.length : Int)).map (fun i => f (at0 xs i)) = xs.map f := by
  apply List.ext_getElem
  · rw [List.length_map, List.length_map, rng_len]
  · intro i h1 h2
    rw [List.getElem_map, List.getElem_map, rng_at, at0_nat (by rw [List.length_map] at h2; exact h2)]
theorem rng_zip [Inhabited α] [Inhabited β] (xs : List α) (ys : List β) (h : xs.length ≤ ys.length) (f : α → β → γ) : (rng 0 (xs.length : Int)).map (fun i => f (at0 xs i) (at0 ys i)) = (xs.zip ys).map fun v => f v.1 v.2 := by
  apply List.ext_getElem
  · rw [List.length_map, List.length_map, rng_len, List.length_zip]; omega
  · intro i h1 h2
    rw [List.length_map, List.length_zip] at h2
    rw [List.getElem_map, List.getElem_map, rng_at, at0_nat (by omega), at0_nat (by omega), List.getElem_zip]
/-! loops -/
theorem lcM_fil {t : T → Res Bool} {f : T → Res U} {p : T → Bool} {g : T → U} {xs : List T} (h : ∀ x ∈ xs, t x = .ok (p x)) (h2 : ∀ x ∈ xs, f x = .ok (g x)) : lcM t f xs = .ok ((xs.filter p).map g) := by
  induction xs with
  | nil => rfl
  | cons x r ih =>
    have ih := ih (fun y hy => h y (List.mem_cons_of_mem _ hy)) (fun y hy => h2 y (List.mem_cons_of_mem _ hy))
    show (t x).quiet.bind _ = _
    rw [h x (List.mem_cons_self ..)]
    show (if p x then (f x).quiet.bind _ else _) = _
    cases hp : p x with
    | true =>
      rw [if_pos rfl, h2 x (List.mem_cons_self ..), List.filter_cons, if_pos hp]
      show (lcM t f r).bind _ = _
      rw [ih]; rfl
    | false => rw [if_neg (by simp), ih, List.filter_cons, if_neg (by simp [hp])]
theorem lcX_fil {t : T → Res Bool} {f : T → Res U} {p : T → Bool} {g : T → U} {xs : List T} (hl : xs.length ≤ sizeLine) (h : ∀ x ∈ xs, t x = .ok (p x)) (h2 : ∀ x ∈ xs, f x = .ok (g x)) : lcX t f xs = .ok ((xs.filter p).map g) := by
  unfold lcX
  rw [guardR_ok (decide_eq_true hl)]
  exact lcM_fil h h2
theorem lcX_id {t : T → Res Bool} {p : T → Bool} {xs : List T} (hl : xs.length ≤ sizeLine) (h : ∀ x ∈ xs, t x = .ok (p x)) : lcX t (fun x => Res.ok x) xs = .ok (xs.filter p) := by
  rw [lcX_fil (g := fun x => x) hl h fun _ _ => rfl, List.map_id']
theorem lcX_all {f : T → Res U} {P : U → Prop} {xs : List T} (hl : xs.length ≤ sizeLine) (h : ∀ x ∈ xs, Ok (f x) P) : Ok (lcX (fun _ => Res.ok true) f xs) fun ys => ys.length = xs.length ∧ ∀ y ∈ ys, P y := by
  unfold lcX
  rw [guardR_ok (decide_eq_true hl)]
  clear hl
  induction xs with
  | nil => exact ⟨rfl, fun _ h => nomatch h⟩
  | cons x r ih =>
    show Post ((Res.ok true).quiet.bind _) _ _
    show Post ((f x).quiet.bind _) _ _
    have hx := h x (List.mem_cons_self ..)
    cases e : f x with
    | err z => rw [e] at hx; exact hx.elim
    | bad => rw [e] at hx; exact hx.elim
    | ok y =>
      rw [e] at hx
      show Post ((lcM _ f r).bind _) _ _
      refine wp (ih fun y hy => h y (List.mem_cons_of_mem _ hy)) fun ys hys => ⟨by simp [hys.1], fun z hz => ?_⟩
      rcases List.mem_cons.mp hz with rfl | hz
      · exact hx
      · exact hys.2 z hz
theorem forC_ret {f : S → T → Res (Ctl S S R)} {p : T → Bool} {g : S → T → S} {v : R} {xs : List T} : ∀ {s : S}, (∀ s, ∀ x ∈ xs, f s x = .ok (if p x then .rt v else .nx (g s x))) → (forC f xs s : Res (Ctl S B R)) = .ok (if xs.any p then .rt v else .nx (xs.foldl g s)) := by
  induction xs with
  | nil => intro s _; rfl
  | cons x r ih =>
    intro s h
    show (f s x).bind _ = _
    rw [h s x (List.mem_cons_self ..), List.any_cons, List.foldl_cons]
    cases p x with
    | true => rfl
    | false =>
      show forC f r (g s x) = _
      rw [ih fun s y hy => h s y (List.mem_cons_of_mem _ hy)]
      rfl
theorem forC_inv {f : S → T → Res (Ctl S S R)} {I : S → Prop} {xs : List T} {s : S} (h0 : I s) (h : ∀ s, I s → ∀ x ∈ xs, Ok (f s x) fun c => ∃ s', c = .nx s' ∧ I s') : Ok (forC f xs s : Res (Ctl S B R)) fun c => ∃ s', c = .nx s' ∧ I s' := by
  induction xs generalizing s with
  | nil => exact ⟨s, rfl, h0⟩
  | cons x r ih =>
    show Post ((f s x).bind _) _ _
    refine wp (h s h0 x (List.mem_cons_self ..)) fun c hc => ?_
    obtain ⟨s', rfl, hs⟩ := hc
    exact ih hs fun s hs y hy => h s hs y (List.mem_cons_of_mem _ hy)
theorem liftC_ok (v : R) : (liftC (.ok (.rt v)) : Res (Ctl S B R)) = .ok (.rt v) := rfl
theorem thenR_nx (s : S) (k : S → Res R) : thenR (.ok (.nx s)) k = k s := rfl
theorem thenR_rt (v : R) (k : S → Res R) : thenR (.ok (.rt v)) k = .ok v := rfl
theorem thenR_if (c : Bool) (v : R) (s : S) (k : S → Res R) : thenR (.ok (if c then .rt v else .nx s)) k = if c then .ok v else k s := by cases c <;> rfl
theorem thenC_nx {S₁ : Type} (s : S) (k : S → Res (Ctl S₁ B R)) : thenC (.ok (.nx s)) k = k s := rfl
theorem thenC_if {S₁ : Type} (c : Bool) (v : R) (s : S) (k : S → Res (Ctl S₁ B R)) : thenC (.ok (if c then .rt v else .nx s)) k = if c then .ok (.rt v) else k s := by cases c <;> rfl
theorem thenR_wp {m : Res (Ctl S Empty R)} {k : S → Res R} {P : S → Prop} {Q : R → Prop} (h : Ok m fun c => ∃ s, c = .nx s ∧ P s) (hk : ∀ s, P s → Ok (k s) Q) : Ok (thenR m k) Q := by
  cases m with
  | ok c => obtain ⟨s, rfl, hs⟩ := h; exact hk s hs
  | err e => exact h.elim
  | bad => exact h.elim
theorem thenC_wp {S₁ : Type} {m : Res (Ctl S B R)} {k : S → Res (Ctl S₁ B R)} {P : S → Prop} {Q : Ctl S₁ B R → Prop} (h : Ok m fun c => ∃ s, c = .nx s ∧ P s) (hk : ∀ s, P s → Ok (k s) Q) : Ok (thenC m k) Q := by
  cases m with
  | ok c => obtain ⟨s, rfl, hs⟩ := h; exact hk s hs
  | err e => exact h.elim
  | bad => exact h.elim
/-! slices -/
theorem cut_to {xs : List α} {i : Int} (h : 0 ≤ i) (h2 : i ≤ xs.length) : cut xs none (some i) = xs.take i.toNat := by
  obtain ⟨n, rfl⟩ := Int.eq_ofNat_of_zero_le h
  unfold cut
  rw [HT.sIx_nat, HT.sIx_none, List.drop_zero, Nat.sub_zero, Nat.min_eq_left (by omega), Int.toNat_natCast]
theorem cut_from {xs : List α} {i : Int} (h : 0 ≤ i) (h2 : i ≤ xs.length) : cut xs (some i) none = xs.drop i.toNat := by
  obtain ⟨n, rfl⟩ := Int.eq_ofNat_of_zero_le h
  unfold cut
  rw [HT.sIx_nat, HT.sIx_none, Nat.min_eq_left (by omega)]
  exact List.take_of_length_le (by rw [List.length_drop]; exact Nat.le_refl _)
theorem cut_mid {xs : List α} {i j : Int} (h : 0 ≤ i) (h1 : i ≤ j) (h2 : j ≤ xs.length) : cut xs (some i) (some j) = (xs.drop i.toNat).take (j - i).toNat := by
  obtain ⟨n, rfl⟩ := Int.eq_ofNat_of_zero_le h
  obtain ⟨m, rfl⟩ := Int.eq_ofNat_of_zero_le (show 0 ≤ j by omega)
  unfold cut
  rw [HT.sIx_nat, HT.sIx_nat, Nat.min_eq_left (by omega), Nat.min_eq_left (by omega)]
  congr 1
  omega
theorem cut_sub {xs : List α} {a b : Option Int} {x : α} (h : x ∈ cut xs a b) : x ∈ xs := List.mem_of_mem_drop (List.mem_of_mem_take h)
theorem cut_len {xs : List α} {a b : Option Int} : (cut xs a b).length ≤ xs.length := by
  unfold cut
  rw [List.length_take, List.length_drop]
  omega
end
end Py

set_option Elab.async false
set_option linter.all false
set_option maxRecDepth 100000
set_option maxHeartbeats 4000000
namespace Lw
open PySem PySem.Spec L2 Py
def topS (i : Nat) : Stmt := PySem.Challenge.pw_judgesandtrees_k04_a_line_or_one_contrar.main.body.getD i (.Pass ⟨0, 0, 0, 0⟩)
/-- what the top leaves -/
structure Fx (P : Program) (K : PySem.W.Frag) (mg : Str → Option Value) : Prop where
  d_value : ∃ fd, FunD K "value" "value" (defArgs (topS 1)) (defBody (topS 1)) (defScope (topS 1)) [] [] (He.ga K "value") fd
  g_value : mg "value" = some (.ref (He.ga K "value"))
  d_holds : ∃ fd, FunD K "holds" "holds" (defArgs (topS 2)) (defBody (topS 2)) (defScope (topS 2)) [] [] (He.ga K "holds") fd
  g_holds : mg "holds" = some (.ref (He.ga K "holds"))
  d_fits : ∃ fd, FunD K "fits" "fits" (defArgs (topS 3)) (defBody (topS 3)) (defScope (topS 3)) [] [] (He.ga K "fits") fd
  g_fits : mg "fits" = some (.ref (He.ga K "fits"))
  d_balances : ∃ fd, FunD K "balances" "balances" (defArgs (topS 4)) (defBody (topS 4)) (defScope (topS 4)) [] [] (He.ga K "balances") fd
  g_balances : mg "balances" = some (.ref (He.ga K "balances"))
  d_contraries : ∃ fd, FunD K "contraries" "contraries" (defArgs (topS 5)) (defBody (topS 5)) (defScope (topS 5)) [] [] (He.ga K "contraries") fd
  g_contraries : mg "contraries" = some (.ref (He.ga K "contraries"))
  d__law_is_whole : ∃ fd, FunD K "_law_is_whole" "_law_is_whole" (defArgs (topS 7)) (defBody (topS 7)) (defScope (topS 7)) [] [] (He.ga K "_law_is_whole") fd
  g__law_is_whole : mg "_law_is_whole" = some (.ref (He.ga K "_law_is_whole"))
  d__law_cell : ∃ fd, FunD K "_law_cell" "_law_cell" (defArgs (topS 8)) (defBody (topS 8)) (defScope (topS 8)) [] [] (He.ga K "_law_cell") fd
  g__law_cell : mg "_law_cell" = some (.ref (He.ga K "_law_cell"))
  d__law_many : ∃ fd, FunD K "_law_many" "_law_many" (defArgs (topS 9)) (defBody (topS 9)) (defScope (topS 9)) [] [] (He.ga K "_law_many") fd
  g__law_many : mg "_law_many" = some (.ref (He.ga K "_law_many"))
  d__law_value : ∃ fd, FunD K "_law_value" "_law_value" (defArgs (topS 10)) (defBody (topS 10)) (defScope (topS 10)) [] [] (He.ga K "_law_value") fd
  g__law_value : mg "_law_value" = some (.ref (He.ga K "_law_value"))
  d__law_says : ∃ fd, FunD K "_law_says" "_law_says" (defArgs (topS 11)) (defBody (topS 11)) (defScope (topS 11)) [] [] (He.ga K "_law_says") fd
  g__law_says : mg "_law_says" = some (.ref (He.ga K "_law_says"))
  d__law_alike : ∃ fd, FunD K "_law_alike" "_law_alike" (defArgs (topS 12)) (defBody (topS 12)) (defScope (topS 12)) [] [] (He.ga K "_law_alike") fd
  g__law_alike : mg "_law_alike" = some (.ref (He.ga K "_law_alike"))
  d__law_true : ∃ fd, FunD K "_law_true" "_law_true" (defArgs (topS 13)) (defBody (topS 13)) (defScope (topS 13)) [] [] (He.ga K "_law_true") fd
  g__law_true : mg "_law_true" = some (.ref (He.ga K "_law_true"))
  d__law_turned : ∃ fd, FunD K "_law_turned" "_law_turned" (defArgs (topS 14)) (defBody (topS 14)) (defScope (topS 14)) [] [] (He.ga K "_law_turned") fd
  g__law_turned : mg "_law_turned" = some (.ref (He.ga K "_law_turned"))
  d__law_contraries : ∃ fd, FunD K "_law_contraries" "_law_contraries" (defArgs (topS 15)) (defBody (topS 15)) (defScope (topS 15)) [] [] (He.ga K "_law_contraries") fd
  g__law_contraries : mg "_law_contraries" = some (.ref (He.ga K "_law_contraries"))
  d__law_closed : ∃ fd, FunD K "_law_closed" "_law_closed" (defArgs (topS 16)) (defBody (topS 16)) (defScope (topS 16)) [] [] (He.ga K "_law_closed") fd
  g__law_closed : mg "_law_closed" = some (.ref (He.ga K "_law_closed"))
  d__law_told : ∃ fd, FunD K "_law_told" "_law_told" (defArgs (topS 17)) (defBody (topS 17)) (defScope (topS 17)) [] [] (He.ga K "_law_told") fd
  g__law_told : mg "_law_told" = some (.ref (He.ga K "_law_told"))
  d__law_line_right : ∃ fd, FunD K "_law_line_right" "_law_line_right" (defArgs (topS 18)) (defBody (topS 18)) (defScope (topS 18)) [] [] (He.ga K "_law_line_right") fd
  g__law_line_right : mg "_law_line_right" = some (.ref (He.ga K "_law_line_right"))
  d__law_fits : ∃ fd, FunD K "_law_fits" "_law_fits" (defArgs (topS 19)) (defBody (topS 19)) (defScope (topS 19)) [] [] (He.ga K "_law_fits") fd
  g__law_fits : mg "_law_fits" = some (.ref (He.ga K "_law_fits"))
  d__law_balances : ∃ fd, FunD K "_law_balances" "_law_balances" (defArgs (topS 20)) (defBody (topS 20)) (defScope (topS 20)) [] [] (He.ga K "_law_balances") fd
  g__law_balances : mg "_law_balances" = some (.ref (He.ga K "_law_balances"))
  d__law_balance_judged : ∃ fd, FunD K "_law_balance_judged" "_law_balance_judged" (defArgs (topS 21)) (defBody (topS 21)) (defScope (topS 21)) [] [] (He.ga K "_law_balance_judged") fd
  g__law_balance_judged : mg "_law_balance_judged" = some (.ref (He.ga K "_law_balance_judged"))
  d__law_fit_judged : ∃ fd, FunD K "_law_fit_judged" "_law_fit_judged" (defArgs (topS 22)) (defBody (topS 22)) (defScope (topS 22)) [] [] (He.ga K "_law_fit_judged") fd
  g__law_fit_judged : mg "_law_fit_judged" = some (.ref (He.ga K "_law_fit_judged"))
  d__law_system : ∃ fd, FunD K "_law_system" "_law_system" (defArgs (topS 23)) (defBody (topS 23)) (defScope (topS 23)) [] [] (He.ga K "_law_system") fd
  g__law_system : mg "_law_system" = some (.ref (He.ga K "_law_system"))
  d__law_put : ∃ fd, FunD K "_law_put" "_law_put" (defArgs (topS 24)) (defBody (topS 24)) (defScope (topS 24)) [] [] (He.ga K "_law_put") fd
  g__law_put : mg "_law_put" = some (.ref (He.ga K "_law_put"))
  d__law_times_counted : ∃ fd, FunD K "_law_times_counted" "_law_times_counted" (defArgs (topS 25)) (defBody (topS 25)) (defScope (topS 25)) [] [] (He.ga K "_law_times_counted") fd
  g__law_times_counted : mg "_law_times_counted" = some (.ref (He.ga K "_law_times_counted"))
  d__law_twice : ∃ fd, FunD K "_law_twice" "_law_twice" (defArgs (topS 26)) (defBody (topS 26)) (defScope (topS 26)) [] [] (He.ga K "_law_twice") fd
  g__law_twice : mg "_law_twice" = some (.ref (He.ga K "_law_twice"))
  d__law_says_more : ∃ fd, FunD K "_law_says_more" "_law_says_more" (defArgs (topS 27)) (defBody (topS 27)) (defScope (topS 27)) [] [] (He.ga K "_law_says_more") fd
  g__law_says_more : mg "_law_says_more" = some (.ref (He.ga K "_law_says_more"))
  d__law_each_unknown : ∃ fd, FunD K "_law_each_unknown" "_law_each_unknown" (defArgs (topS 28)) (defBody (topS 28)) (defScope (topS 28)) [] [] (He.ga K "_law_each_unknown") fd
  g__law_each_unknown : mg "_law_each_unknown" = some (.ref (He.ga K "_law_each_unknown"))
  d__law_line : ∃ fd, FunD K "_law_line" "_law_line" (defArgs (topS 29)) (defBody (topS 29)) (defScope (topS 29)) [] [] (He.ga K "_law_line") fd
  g__law_line : mg "_law_line" = some (.ref (He.ga K "_law_line"))
  d__law_fitting : ∃ fd, FunD K "_law_fitting" "_law_fitting" (defArgs (topS 30)) (defBody (topS 30)) (defScope (topS 30)) [] [] (He.ga K "_law_fitting") fd
  g__law_fitting : mg "_law_fitting" = some (.ref (He.ga K "_law_fitting"))
  d__law_fit_right : ∃ fd, FunD K "_law_fit_right" "_law_fit_right" (defArgs (topS 31)) (defBody (topS 31)) (defScope (topS 31)) [] [] (He.ga K "_law_fit_right") fd
  g__law_fit_right : mg "_law_fit_right" = some (.ref (He.ga K "_law_fit_right"))
  d__law_each_line : ∃ fd, FunD K "_law_each_line" "_law_each_line" (defArgs (topS 32)) (defBody (topS 32)) (defScope (topS 32)) [] [] (He.ga K "_law_each_line") fd
  g__law_each_line : mg "_law_each_line" = some (.ref (He.ga K "_law_each_line"))
  d__law_each_judge : ∃ fd, FunD K "_law_each_judge" "_law_each_judge" (defArgs (topS 33)) (defBody (topS 33)) (defScope (topS 33)) [] [] (He.ga K "_law_each_judge") fd
  g__law_each_judge : mg "_law_each_judge" = some (.ref (He.ga K "_law_each_judge"))
  d_law : ∃ fd, FunD K "law" "law" (defArgs (topS 34)) (defBody (topS 34)) (defScope (topS 34)) [] [] (He.ga K "law") fd
  g_law : mg "law" = some (.ref (He.ga K "law"))
  n_abs : mg "abs" = none
  n_all : mg "all" = none
  n_bool : mg "bool" = none
  n_int : mg "int" = none
  n_isinstance : mg "isinstance" = none
  n_len : mg "len" = none
  n_list : mg "list" = none
  n_max : mg "max" = none
  n_range : mg "range" = none
  n_str : mg "str" = none
  n_sum : mg "sum" = none
  n_tuple : mg "tuple" = none
  n_zip : mg "zip" = none
def m_value (row : Sq Int) (numbers : List Int) : Res Int :=
  (Res.bind (Res.bind (Res.ok (row.l.zip numbers)) fun z3 => lcX (fun _ => Res.ok true) (fun v2 => (mulM v2.1 v2.2)) z3) fun x4 => Res.ok x4.sum)
abbrev s_value : Stmt := topS 1
theorem sc_value : FnScope ["row", "numbers", "entry", "number"] ["row", "numbers"] (defScope s_value) := ⟨rfl, rfl, rfl, by decide +kernel, rfl, by decide +kernel, by decide +kernel⟩
theorem ok_value {P : Program} {w : World} {K : PySem.W.Frag} {mg : Str → Option Value} {base : Heap} (G : Fx P K mg) : FOk P w K mg base "value" 1 (spOf K (asC (T := (Sq Int)) (asC (T := (List Int)) asN)) (fun u : (Sq Int) × (List Int) × Unit => m_value u.1 u.2.1)) := by
  obtain ⟨fd, F⟩ := G.d_value
  refine fok_data (ρ0 := fun u : (Sq Int) × (List Int) × Unit => [.val (Sq Int) u.1, .val (List Int) u.2.1, .non, .non]) F G.g_value sc_value (F.bindsN (ps := ["row", "numbers"]) fun _ _ _ _ _ _ us hl => match us, hl with | [_, _], _ => rfl) (by intro _; rfl) (by intro _; rfl) fun cdv A outer s H E C => ?_
  rintro ⟨row, numbers, ⟨⟩⟩
  show SR _ _ none [.val (Sq Int) row, .val (List Int) numbers, .non, .non] _ (retD Int) (m_value row numbers)
  unfold m_value
  exact (r_ret (e_sum C.calm (FG.lg (f_lc (ow := [(Str.ofString "entry", 2), (Str.ofString "number", 3)]) (ρw := [.val (Sq Int) row, .val (List Int) numbers, .non, .non]) C (i_zipsp (Sq Int) (List Int) (e_var 0) (e_var 1) G.n_zip) (fun s H Cc cl fp => ⟨(g_pair C.blk.calm (g_name 2 C.blk.nd) (g_name 3 C.blk.nd)), fun _ => lc_none, fun v2 => e_at [.val (Sq Int) row, .val (List Int) numbers, .val Int v2.1, .val Int v2.2] (e_mulp (e_var 2) (e_var 3))⟩))) G.n_sum))
def m_holds (line : Str × (Sq Int)) (numbers : List Int) : Res Bool :=
  (Res.bind (m_value line.2 numbers) fun amount1 => (if (decide (line.1 = (Str.ofString ">"))) then (Res.ok (decide (0 < amount1))) else (if (decide (line.1 = (Str.ofString ">="))) then (Res.ok (decide (0 ≤ amount1))) else (Res.ok (decide (amount1 = 0))))))
abbrev s_holds : Stmt := topS 2
theorem sc_holds : FnScope ["line", "numbers", "amount"] ["line", "numbers"] (defScope s_holds) := ⟨rfl, rfl, rfl, by decide +kernel, rfl, by decide +kernel, by decide +kernel⟩
theorem ok_holds {P : Program} {w : World} {K : PySem.W.Frag} {mg : Str → Option Value} {base : Heap} (G : Fx P K mg) : FOk P w K mg base "holds" 2 (spOf K (asC (T := (Str × (Sq Int))) (asC (T := (List Int)) asN)) (fun u : (Str × (Sq Int)) × (List Int) × Unit => m_holds u.1 u.2.1)) := by
  obtain ⟨fd, F⟩ := G.d_holds
  refine fok_data (ρ0 := fun u : (Str × (Sq Int)) × (List Int) × Unit => [.val (Str × (Sq Int)) u.1, .val (List Int) u.2.1, .non]) F G.g_holds sc_holds (F.bindsN (ps := ["line", "numbers"]) fun _ _ _ _ _ _ us hl => match us, hl with | [_, _], _ => rfl) (by intro _; rfl) (by intro _; rfl) fun cdv A outer s H E C => ?_
  rintro ⟨line, numbers, ⟨⟩⟩
  show SR _ _ none [.val (Str × (Sq Int)) line, .val (List Int) numbers, .non] _ (retD Bool) (m_holds line numbers)
  unfold m_holds
  exact (r_cons (n_set 2 (n3 := fun amount1 => [.val (Str × (Sq Int)) line, .val (List Int) numbers, .val Int amount1]) C.nd (e_call C (ok_value G) (a_consp (e_plp (j := 1) (f := fun (x : (Str × (Sq Int))) => x.2) (e_var 0)) (a_consp (e_var 1) a_nil)))) fun amount1 => (r_ifp (CJ.t (e_eqp (e_plp (j := 0) (f := fun (x : (Str × (Sq Int))) => x.1) (e_var 0)) e_str)) (r_ret (CJ.v (e_gtp (e_var 2) e_int))) (r_ifp (CJ.t (e_eqp (e_plp (j := 0) (f := fun (x : (Str × (Sq Int))) => x.1) (e_var 0)) e_str)) (r_ret (CJ.v (e_gep (e_var 2) e_int))) (r_ret (CJ.v (e_eqp (e_var 2) e_int))))))
def m_fits (count : Int) (lines : List (Str × (Tup Int))) (numbers : List Int) : Res Bool :=
  (andM (Res.ok (decide ((numbers.length : Int) = count))) (Res.bind (Res.bind (Res.ok lines) fun z3 => lcX (fun _ => Res.ok true) (fun line2 => (m_holds (line2.1, (Sq.mk true line2.2.l)) numbers)) z3) fun x4 => Res.ok (x4.all id)))
abbrev s_fits : Stmt := topS 3
theorem sc_fits : FnScope ["count", "lines", "numbers", "line"] ["count", "lines", "numbers"] (defScope s_fits) := ⟨rfl, rfl, rfl, by decide +kernel, rfl, by decide +kernel, by decide +kernel⟩
theorem ok_fits {P : Program} {w : World} {K : PySem.W.Frag} {mg : Str → Option Value} {base : Heap} (G : Fx P K mg) : FOk P w K mg base "fits" 3 (spOf K (asC (T := Int) (asC (T := (List (Str × (Tup Int)))) (asC (T := (List Int)) asN))) (fun u : Int × (List (Str × (Tup Int))) × (List Int) × Unit => m_fits u.1 u.2.1 u.2.2.1)) := by
  obtain ⟨fd, F⟩ := G.d_fits
  refine fok_data (ρ0 := fun u : Int × (List (Str × (Tup Int))) × (List Int) × Unit => [.val Int u.1, .val (List (Str × (Tup Int))) u.2.1, .val (List Int) u.2.2.1, .non]) F G.g_fits sc_fits (F.bindsN (ps := ["count", "lines", "numbers"]) fun _ _ _ _ _ _ us hl => match us, hl with | [_, _, _], _ => rfl) (by intro _; rfl) (by intro _; rfl) fun cdv A outer s H E C => ?_
  rintro ⟨count, lines, numbers, ⟨⟩⟩
  show SR _ _ none [.val Int count, .val (List (Str × (Tup Int))) lines, .val (List Int) numbers, .non] _ (retD Bool) (m_fits count lines numbers)
  unfold m_fits
  exact (r_ret (e_and (CJ.v (e_eqp (e_lenl (EG.lg (e_var 2)) G.n_len) (e_var 0))) (e_and1 (e_all C.calm (FG.lg (f_lc (ow := [(Str.ofString "line", 3)]) (ρw := [.val Int count, .val (List (Str × (Tup Int))) lines, .val (List Int) numbers, .non]) C (i_list (e_var 1)) (fun s H Cc cl fp => ⟨(g_name 3 C.blk.nd), fun _ => lc_none, fun line2 => e_at [.val Int count, .val (List (Str × (Tup Int))) lines, .val (List Int) numbers, .val (Str × (Tup Int)) line2] (e_call C.blk (ok_holds G) (a_consp (e_upp (up_P up_id up_T) (e_var 3)) (a_consp (e_var 2) a_nil)))⟩))) G.n_all))))
def m_balances (count : Int) (lines : List (Str × (Tup Int))) (times : List Int) : Res Bool :=
  (if (!decide ((times.length : Int) = (lines.length : Int))) then (Res.ok false) else (Res.bind (Res.ok false) fun strict1 => (thenR (Res.bind (Res.ok (lines.zip times)) fun z6 => forC (fun (r2 : Bool) v3 => (if (decide (v3.2 < 0) && (!decide (v3.1.1 = (Str.ofString "=")))) then liftC (Res.ok (Ctl.rt false)) else (Res.bind (if ((decide (0 < v3.2)) && (decide (v3.1.1 = (Str.ofString ">")))) then (Res.bind (Res.ok true) fun strict5 => (Res.ok strict5)) else (Res.ok r2)) fun r4 => (Res.ok (Ctl.nx r4))))) z6 strict1) fun r2 => (thenR (Res.bind (guardR (inRange count) (Res.ok (rng 0 count))) fun z18 => forC (fun (r7 : Unit) unknown8 => (Res.bind (Res.bind (Res.bind (Res.bind (Res.ok (lines.zip times)) fun z13 => lcX (fun _ => Res.ok true) (fun v10 => (Res.bind (idxM v10.1.2.l unknown8) fun x11 => Res.bind (Res.ok v10.2) fun y12 => mulM x11 y12)) z13) fun x14 => Res.ok x14.sum) fun x15 => Res.bind (Res.ok 0) fun y16 => Res.ok (!decide (x15 = y16))) fun k17 => if k17 then liftC (Res.ok (Ctl.rt false)) else (Res.ok (Ctl.nx ())))) z18 ()) fun r7 => (Res.ok r2)))))
abbrev s_balances : Stmt := topS 4
theorem sc_balances : FnScope ["count", "lines", "times", "strict", "line", "amount", "unknown"] ["count", "lines", "times"] (defScope s_balances) := ⟨rfl, rfl, rfl, by decide +kernel, rfl, by decide +kernel, by decide +kernel⟩
theorem ok_balances {P : Program} {w : World} {K : PySem.W.Frag} {mg : Str → Option Value} {base : Heap} (G : Fx P K mg) : FOk P w K mg base "balances" 1 (spOf K (asC (T := Int) (asC (T := (List (Str × (Tup Int)))) (asC (T := (List Int)) asN))) (fun u : Int × (List (Str × (Tup Int))) × (List Int) × Unit => m_balances u.1 u.2.1 u.2.2.1)) := by
  obtain ⟨fd, F⟩ := G.d_balances
  refine fok_data (ρ0 := fun u : Int × (List (Str × (Tup Int))) × (List Int) × Unit => [.val Int u.1, .val (List (Str × (Tup Int))) u.2.1, .val (List Int) u.2.2.1, .non, .non, .non, .non]) F G.g_balances sc_balances (F.bindsN (ps := ["count", "lines", "times"]) fun _ _ _ _ _ _ us hl => match us, hl with | [_, _, _], _ => rfl) (by intro _; rfl) (by intro _; rfl) fun cdv A outer s H E C => ?_
  rintro ⟨count, lines, times, ⟨⟩⟩
  show SR _ _ none [.val Int count, .val (List (Str × (Tup Int))) lines, .val (List Int) times, .non, .non, .non, .non] _ (retD Bool) (m_balances count lines times)
  unfold m_balances
  exact (r_ifp (CJ.t (e_nep (e_lenl (EG.lg (e_var 2)) G.n_len) (e_lenl (EG.lg (e_var 1)) G.n_len))) (r_ret e_bool) (r_cons (n_set 3 (n3 := fun strict1 => [.val Int count, .val (List (Str × (Tup Int))) lines, .val (List Int) times, .val Bool strict1, .non, .non, .non]) C.nd e_bool) fun strict1 => (rc_cons (b := eb) (c_for (ρl := fun (r2 : Bool) => [.val Int count, .val (List (Str × (Tup Int))) lines, .val (List Int) times, .val Bool r2, .non, .non, .non]) (s0 := strict1) C (i_zipp (e_var 1) (e_var 2) G.n_zip) (g_pair C.calm (g_name 4 C.nd) (g_name 5 C.nd)) (.s (.s (.s (.s (.n (.n (.n .nil))))))) (fun r2 v3 => c_at [.val Int count, .val (List (Str × (Tup Int))) lines, .val (List Int) times, .val Bool r2, .val (Str × (Tup Int)) v3.1, .val Int v3.2, .non] (c_if1p (TWJ.pt (tw_andp (CJ.t (e_ltp (e_var 5) e_int)) (tw_and1 (CJ.t (e_nep (e_plp (j := 0) (f := fun (x : (Str × (Tup Int))) => x.1) (e_var 4)) e_str))))) (SR.cp (r_ret e_bool)) (c_cons (n_ifp (n := fun (r4 : Bool) => [.val Int count, .val (List (Str × (Tup Int))) lines, .val (List Int) times, .val Bool r4, .val (Str × (Tup Int)) v3.1, .val Int v3.2, .non]) (TWJ.pt (tw_andp (CJ.t (e_gtp (e_var 5) e_int)) (tw_and1 (CJ.t (e_eqp (e_plp (j := 0) (f := fun (x : (Str × (Tup Int))) => x.1) (e_var 4)) e_str))))) (b_cons (n_set 3 (n3 := fun strict5 => [.val Int count, .val (List (Str × (Tup Int))) lines, .val (List Int) times, .val Bool strict5, .val (Str × (Tup Int)) v3.1, .val Int v3.2, .non]) C.nd e_bool) fun strict5 => (b_nil (.s (.s (.s (.s (.s (.s (.n .nil))))))))) (b_nil (.s (.s (.s (.s (.s (.s (.n .nil))))))))) fun r4 => (c_nil (.s (.s (.s (.s (.n (.n (.n .nil)))))))))))) fun r2 => (rc_cons (b := eb) (c_for (ρl := fun (r7 : Unit) => [.val Int count, .val (List (Str × (Tup Int))) lines, .val (List Int) times, .val Bool r2, .non, .non, .non]) (s0 := ()) C (i_range1p (e_var 0) G.n_range) (g_name 6 C.nd) (.s (.s (.s (.s (.n (.n (.n .nil))))))) (fun r7 unknown8 => c_at [.val Int count, .val (List (Str × (Tup Int))) lines, .val (List Int) times, .val Bool r2, .non, .non, .val Int unknown8] (c_if1 (CJ.t (e_ne (e_sum C.calm (FG.lg (f_lc (ow := [(Str.ofString "line", 4), (Str.ofString "amount", 5)]) (ρw := [.val Int count, .val (List (Str × (Tup Int))) lines, .val (List Int) times, .val Bool r2, .non, .non, .val Int unknown8]) C (i_zipp (e_var 1) (e_var 2) G.n_zip) (fun s H Cc cl fp => ⟨(g_pair C.blk.calm (g_name 4 C.blk.nd) (g_name 5 C.blk.nd)), fun _ => lc_none, fun v10 => e_at [.val Int count, .val (List (Str × (Tup Int))) lines, .val (List Int) times, .val Bool r2, .val (Str × (Tup Int)) v10.1, .val Int v10.2, .val Int unknown8] (e_mul (e_ixtp (e_plp (j := 1) (f := fun (x : (Str × (Tup Int))) => x.2) (e_var 4)) (e_var 6)) (e_var 5))⟩))) G.n_sum) e_int)) (SR.cp (r_ret e_bool)) (c_nil (.s (.s (.s (.s (.n (.n (.n .nil))))))))))) fun r7 => (r_ret (e_var 3))))))
def m_contraries (line : Str × (Sq Int)) : Res (List (Str × (Sq Int))) :=
  (Res.bind (Res.bind (Res.bind (Res.ok line.2.l) fun z4 => lcX (fun _ => Res.ok true) (fun entry3 => (Res.ok (-entry3))) z4) fun x5 => Res.ok (⟨x5⟩ : Tup Int)) fun turned1 => (if (decide (line.1 = (Str.ofString ">"))) then (Res.ok [((Str.ofString ">="), (Sq.mk true turned1.l))]) else (if (decide (line.1 = (Str.ofString ">="))) then (Res.ok [((Str.ofString ">"), (Sq.mk true turned1.l))]) else (Res.ok [((Str.ofString ">"), (Sq.mk true (Tup.mk line.2.l).l)), ((Str.ofString ">"), (Sq.mk true turned1.l))]))))
abbrev s_contraries : Stmt := topS 5
theorem sc_contraries : FnScope ["line", "turned", "entry"] ["line"] (defScope s_contraries) := ⟨rfl, rfl, rfl, by decide +kernel, rfl, by decide +kernel, by decide +kernel⟩
theorem ok_contraries {P : Program} {w : World} {K : PySem.W.Frag} {mg : Str → Option Value} {base : Heap} (G : Fx P K mg) : FOk P w K mg base "contraries" 1 (spFr K (asC (T := (Str × (Sq Int))) asN) (fun u : (Str × (Sq Int)) × Unit => m_contraries u.1)) := by
  obtain ⟨fd, F⟩ := G.d_contraries
  refine fok_fr (ρ0 := fun u : (Str × (Sq Int)) × Unit => [.val (Str × (Sq Int)) u.1, .non, .non]) F G.g_contraries sc_contraries (F.bindsN (ps := ["line"]) fun _ _ _ _ _ _ us hl => match us, hl with | [_], _ => rfl) (by intro _; rfl) (by intro _; rfl) fun cdv A outer s H E C => ?_
  rintro ⟨line, ⟨⟩⟩
  show SR _ _ none [.val (Str × (Sq Int)) line, .non, .non] _ (retF (Str × (Sq Int))) (m_contraries line)
  unfold m_contraries
  exact (r_cons (n_set 1 (n3 := fun turned1 => [.val (Str × (Sq Int)) line, .val (Tup Int) turned1, .non]) C.nd (e_tupof (FG.lg (f_lc (ow := [(Str.ofString "entry", 2)]) (ρw := [.val (Str × (Sq Int)) line, .non, .non]) C (i_sqp (e_plp (j := 1) (f := fun (x : (Str × (Sq Int))) => x.2) (e_var 0))) (fun s H Cc cl fp => ⟨(g_name 2 C.blk.nd), fun _ => lc_none, fun entry3 => e_at [.val (Str × (Sq Int)) line, .non, .val Int entry3] (e_negp (e_var 2))⟩))) G.n_tuple)) fun turned1 => (r_ifp (CJ.t (e_eqp (e_plp (j := 0) (f := fun (x : (Str × (Sq Int))) => x.1) (e_var 0)) e_str)) (r_retF (f_list (mk := fun u => [u.1]) (a_consp (e_tup (mk := (fun u => (u.1, u.2.1))) (a_consp e_str (a_consp (e_upp up_T (e_var 1)) a_nil))) a_nil))) (r_ifp (CJ.t (e_eqp (e_plp (j := 0) (f := fun (x : (Str × (Sq Int))) => x.1) (e_var 0)) e_str)) (r_retF (f_list (mk := fun u => [u.1]) (a_consp (e_tup (mk := (fun u => (u.1, u.2.1))) (a_consp e_str (a_consp (e_upp up_T (e_var 1)) a_nil))) a_nil))) (r_retF (f_list (mk := fun u => [u.1, u.2.1]) (a_consp (e_tup (mk := (fun u => (u.1, u.2.1))) (a_consp e_str (a_consp (e_upp up_T (e_tupofsqp (e_plp (j := 1) (f := fun (x : (Str × (Sq Int))) => x.2) (e_var 0)) G.n_tuple)) a_nil))) (a_consp (e_tup (mk := (fun u => (u.1, u.2.1))) (a_consp e_str (a_consp (e_upp up_T (e_var 1)) a_nil))) a_nil)))))))
def m__law_is_whole (x : PD) : Res Bool :=
  (Res.ok ((isInt x) && (!(isBl x))))
abbrev s__law_is_whole : Stmt := topS 7
theorem sc__law_is_whole : FnScope ["x"] ["x"] (defScope s__law_is_whole) := ⟨rfl, rfl, rfl, by decide +kernel, rfl, by decide +kernel, by decide +kernel⟩
theorem ok__law_is_whole {P : Program} {w : World} {K : PySem.W.Frag} {mg : Str → Option Value} {base : Heap} (G : Fx P K mg) : FOk P w K mg base "_law_is_whole" 1 (spOf K (asC (T := PD) asN) (fun u : PD × Unit => m__law_is_whole u.1)) := by
  obtain ⟨fd, F⟩ := G.d__law_is_whole
  refine fok_data (ρ0 := fun u : PD × Unit => [.val PD u.1]) F G.g__law_is_whole sc__law_is_whole (F.bindsN (ps := ["x"]) fun _ _ _ _ _ _ us hl => match us, hl with | [_], _ => rfl) (by intro _; rfl) (by intro _; rfl) fun cdv A outer s H E C => ?_
  rintro ⟨x, ⟨⟩⟩
  show SR _ _ none [.val PD x] _ (retD Bool) (m__law_is_whole x)
  unfold m__law_is_whole
  exact (r_ret (e_andp (e_isip (f := isInt) (hk := isInt_ok) (e_var 0) G.n_isinstance G.n_int) (e_and1 (e_notp (e_isip (f := isBl) (hk := isBl_ok) (e_var 0) G.n_isinstance G.n_bool)))))
def m__law_cell (script : Scr) (k : Int) : Res Int :=
  (if decide (k < (script.ns.length : Int)) then (idxM script.ns k) else (if (decide (0 < (script.ns.length : Int))) then (Res.bind (Res.bind (Res.ok script) fun x1 => Res.bind (modM k (script.ns.length : Int)) fun y2 => idxM x1.ns y2) fun x3 => Res.bind (mulM 1000003 k) fun y4 => Res.ok (x3 + y4)) else (Res.ok k)))
abbrev s__law_cell : Stmt := topS 8
theorem sc__law_cell : FnScope ["script", "k"] ["script", "k"] (defScope s__law_cell) := ⟨rfl, rfl, rfl, by decide +kernel, rfl, by decide +kernel, by decide +kernel⟩
theorem ok__law_cell {P : Program} {w : World} {K : PySem.W.Frag} {mg : Str → Option Value} {base : Heap} (G : Fx P K mg) : FOk P w K mg base "_law_cell" 1 (spOf K (asC (T := Scr) (asC (T := Int) asN)) (fun u : Scr × Int × Unit => m__law_cell u.1 u.2.1)) := by
  obtain ⟨fd, F⟩ := G.d__law_cell
  refine fok_data (ρ0 := fun u : Scr × Int × Unit => [.val Scr u.1, .val Int u.2.1]) F G.g__law_cell sc__law_cell (F.bindsN (ps := ["script", "k"]) fun _ _ _ _ _ _ us hl => match us, hl with | [_, _], _ => rfl) (by intro _; rfl) (by intro _; rfl) fun cdv A outer s H E C => ?_
  rintro ⟨script, k, ⟨⟩⟩
  show SR _ _ none [.val Scr script, .val Int k] _ (retD Int) (m__law_cell script k)
  unfold m__law_cell
  exact (r_ifp (CJ.t (e_ltp (e_var 1) (e_lenscr (e_var 0) G.n_len))) (r_ret (e_ixscrp (e_var 0) (e_var 1))) (r_ifp (CJ.t (e_gtp (e_lenscr (e_var 0) G.n_len) e_int)) (r_ret (e_add (e_ixscr (e_var 0) (e_modp (e_int1p (e_var 1) G.n_int) (e_lenscr (e_var 0) G.n_len))) (e_mulp e_int (e_var 1)))) (r_ret (e_var 1))))
def m__law_many (script : Scr) (k : Int) (many : Int) (limit : Int) : Res (List Int) :=
  (Res.bind (m__law_cell script k) fun cell1 => (Res.bind (Res.ok ((cell1).natAbs : Int)) fun left2 => (Res.bind (Res.ok ([] : List Int)) fun found3 => (Res.bind (Res.bind (guardR (inRange many) (Res.ok (rng 0 many))) fun z40 => forR (fun (r4 : Int × (List Int)) turn5 => (Res.bind (Res.bind (andM (Res.bind (Res.ok ((cell1).natAbs : Int)) fun x6 => Res.bind (powM 10 18) fun y7 => Res.ok (decide (y7 ≤ x6))) (Res.ok (decide (0 < r4.1)))) fun k39 => if k39 then (Res.bind (Res.bind (modM r4.1 limit) fun y10 => appM r4.2 y10) fun found9 => (Res.bind (divM r4.1 limit) fun left11 => (Res.ok (left11, found9)))) else (Res.bind (Res.bind (Res.bind (Res.bind (Res.bind (mulM cell1 48271) fun x13 => Res.bind (mulM turn5 69621) fun y14 => Res.ok (x13 + y14)) fun x15 => Res.bind (mulM 17 k) fun y16 => Res.ok (x15 + y16)) fun x17 => Res.bind (Res.ok 11) fun y18 => Res.ok (x17 + y18)) fun x19 => Res.bind (Res.ok 2147483647) fun y20 => modM x19 y20) fun mixed12 => (Res.bind (Res.bind (Res.bind (Res.bind (mulM mixed12 mixed12) fun x22 => Res.bind (mulM turn5 40692) fun y23 => Res.ok (x22 + y23)) fun x24 => Res.bind (Res.ok 3) fun y25 => Res.ok (x24 + y25)) fun x26 => Res.bind (Res.ok 2147483399) fun y27 => modM x26 y27) fun mixed21 => (Res.bind (Res.bind (Res.bind (Res.bind (mulM mixed21 mixed21) fun x29 => Res.bind (mulM turn5 7) fun y30 => Res.ok (x29 + y30)) fun x31 => Res.bind (Res.ok k) fun y32 => Res.ok (x31 + y32)) fun x33 => Res.bind (Res.ok 2147483579) fun y34 => modM x33 y34) fun mixed28 => (Res.bind (Res.bind (Res.bind (divM mixed28 64) fun x35 => Res.bind (Res.ok limit) fun y36 => modM x35 y36) fun y38 => appM r4.2 y38) fun found37 => (Res.ok (r4.1, found37))))))) fun r8 => (Res.ok (r8.1, r8.2)))) z40 (left2, found3)) fun r4 => (Res.ok r4.2)))))
abbrev s__law_many : Stmt := topS 9
theorem sc__law_many : FnScope ["script", "k", "many", "limit", "cell", "left", "found", "turn", "mixed"] ["script", "k", "many", "limit"] (defScope s__law_many) := ⟨rfl, rfl, rfl, by decide +kernel, rfl, by decide +kernel, by decide +kernel⟩
theorem ok__law_many {P : Program} {w : World} {K : PySem.W.Frag} {mg : Str → Option Value} {base : Heap} (G : Fx P K mg) : FOk P w K mg base "_law_many" 2 (spFr K (asC (T := Scr) (asC (T := Int) (asC (T := Int) (asC (T := Int) asN)))) (fun u : Scr × Int × Int × Int × Unit => m__law_many u.1 u.2.1 u.2.2.1 u.2.2.2.1)) := by
  obtain ⟨fd, F⟩ := G.d__law_many
  refine fok_fr (ρ0 := fun u : Scr × Int × Int × Int × Unit => [.val Scr u.1, .val Int u.2.1, .val Int u.2.2.1, .val Int u.2.2.2.1, .non, .non, .non, .non, .non]) F G.g__law_many sc__law_many (F.bindsN (ps := ["script", "k", "many", "limit"]) fun _ _ _ _ _ _ us hl => match us, hl with | [_, _, _, _], _ => rfl) (by intro _; rfl) (by intro _; rfl) fun cdv A outer s H E C => ?_
  rintro ⟨script, k, many, limit, ⟨⟩⟩
  show SR _ _ none [.val Scr script, .val Int k, .val Int many, .val Int limit, .non, .non, .non, .non, .non] _ (retF Int) (m__law_many script k many limit)
  unfold m__law_many
  exact (r_cons (n_set 4 (n3 := fun cell1 => [.val Scr script, .val Int k, .val Int many, .val Int limit, .val Int cell1, .non, .non, .non, .non]) C.nd (e_call C (ok__law_cell G) (a_consp (e_var 0) (a_consp (e_var 1) a_nil)))) fun cell1 => (r_cons (n_set 5 (n3 := fun left2 => [.val Scr script, .val Int k, .val Int many, .val Int limit, .val Int cell1, .val Int left2, .non, .non, .non]) C.nd (e_absp (e_var 4) G.n_abs)) fun left2 => (r_cons (n_setF 6 (n3 := fun found3 => [.val Scr script, .val Int k, .val Int many, .val Int limit, .val Int cell1, .val Int left2, .own Int none found3, .non, .non]) C.nd (f_list (mk := (fun _ => ([] : List Int))) a_nil)) fun found3 => (r_cons (n_for (ρl := fun (r4 : Int × (List Int)) => [.val Scr script, .val Int k, .val Int many, .val Int limit, .val Int cell1, .val Int r4.1, .own Int none r4.2, .non, .non]) (s0 := (left2, found3)) C (i_range1p (e_var 2) G.n_range) (g_name 7 C.nd) (.s (.s (.s (.s (.s (.s (.s (.n (.n .nil))))))))) (fun r4 turn5 => b_at [.val Scr script, .val Int k, .val Int many, .val Int limit, .val Int cell1, .val Int r4.1, .own Int none r4.2, .val Int turn5, .non] (b_cons (n_if (n := fun (r8 : Int × (List Int)) => [.val Scr script, .val Int k, .val Int many, .val Int limit, .val Int cell1, .val Int r8.1, .own Int none r8.2, .val Int turn5, .non]) (TWJ.pt (tw_and (CJ.t (e_ge (e_absp (e_var 4) G.n_abs) (e_powp e_int e_int))) (tw_and1 (CJ.t (e_gtp (e_var 5) e_int))))) (b_cons (n_app 6 (n3 := fun found9 => [.val Scr script, .val Int k, .val Int many, .val Int limit, .val Int cell1, .val Int r4.1, .own Int none found9, .val Int turn5, .non]) (e_modp (e_int1p (e_var 5) G.n_int) (e_var 3))) fun found9 => (b_cons (n_set 5 (n3 := fun left11 => [.val Scr script, .val Int k, .val Int many, .val Int limit, .val Int cell1, .val Int left11, .own Int none found9, .val Int turn5, .non]) C.nd (e_fdivp (e_var 5) (e_var 3))) fun left11 => (b_nil (.s (.s (.s (.s (.s (.s (.s (.s (.n .nil)))))))))))) (b_cons (n_set 8 (n3 := fun mixed12 => [.val Scr script, .val Int k, .val Int many, .val Int limit, .val Int cell1, .val Int r4.1, .own Int none r4.2, .val Int turn5, .val Int mixed12]) C.nd (e_mod (e_int1m (e_add (e_add (e_add (e_mulp (e_var 4) e_int) (e_mulp (e_var 7) e_int)) (e_mulp e_int (e_var 1))) e_int) G.n_int) e_int)) fun mixed12 => (b_cons (n_set 8 (n3 := fun mixed21 => [.val Scr script, .val Int k, .val Int many, .val Int limit, .val Int cell1, .val Int r4.1, .own Int none r4.2, .val Int turn5, .val Int mixed21]) C.nd (e_mod (e_int1m (e_add (e_add (e_mulp (e_var 8) (e_var 8)) (e_mulp (e_var 7) e_int)) e_int) G.n_int) e_int)) fun mixed21 => (b_cons (n_set 8 (n3 := fun mixed28 => [.val Scr script, .val Int k, .val Int many, .val Int limit, .val Int cell1, .val Int r4.1, .own Int none r4.2, .val Int turn5, .val Int mixed28]) C.nd (e_mod (e_int1m (e_add (e_add (e_mulp (e_var 8) (e_var 8)) (e_mulp (e_var 7) e_int)) (e_var 1)) G.n_int) e_int)) fun mixed28 => (b_cons (n_app 6 (n3 := fun found37 => [.val Scr script, .val Int k, .val Int many, .val Int limit, .val Int cell1, .val Int r4.1, .own Int none found37, .val Int turn5, .val Int mixed28]) (e_mod (e_int1m (e_fdivp (e_var 8) e_int) G.n_int) (e_var 3))) fun found37 => (b_nil (.s (.s (.s (.s (.s (.s (.s (.s (.n .nil))))))))))))))) fun r8 => (b_nil (.s (.s (.s (.s (.s (.s (.s (.n (.n .nil))))))))))))) fun r4 => (r_retOwn 6)))))
def m__law_value (row : Sq Int) (numbers : List Int) : Res Int :=
  (Res.bind (Res.bind (guardR (inRange (row.l.length : Int)) (Res.ok (rng 0 (row.l.length : Int)))) fun z5 => lcX (fun _ => Res.ok true) (fun at'2 => (Res.bind (idxM row.l at'2) fun x3 => Res.bind (idxM numbers at'2) fun y4 => mulM x3 y4)) z5) fun x6 => Res.ok x6.sum)
abbrev s__law_value : Stmt := topS 10
theorem sc__law_value : FnScope ["row", "numbers", "at"] ["row", "numbers"] (defScope s__law_value) := ⟨rfl, rfl, rfl, by decide +kernel, rfl, by decide +kernel, by decide +kernel⟩
theorem ok__law_value {P : Program} {w : World} {K : PySem.W.Frag} {mg : Str → Option Value} {base : Heap} (G : Fx P K mg) : FOk P w K mg base "_law_value" 1 (spOf K (asC (T := (Sq Int)) (asC (T := (List Int)) asN)) (fun u : (Sq Int) × (List Int) × Unit => m__law_value u.1 u.2.1)) := by
  obtain ⟨fd, F⟩ := G.d__law_value
  refine fok_data (ρ0 := fun u : (Sq Int) × (List Int) × Unit => [.val (Sq Int) u.1, .val (List Int) u.2.1, .non]) F G.g__law_value sc__law_value (F.bindsN (ps := ["row", "numbers"]) fun _ _ _ _ _ _ us hl => match us, hl with | [_, _], _ => rfl) (by intro _; rfl) (by intro _; rfl) fun cdv A outer s H E C => ?_
  rintro ⟨row, numbers, ⟨⟩⟩
  show SR _ _ none [.val (Sq Int) row, .val (List Int) numbers, .non] _ (retD Int) (m__law_value row numbers)
  unfold m__law_value
  exact (r_ret (e_sum C.calm (FG.lg (f_lc (ow := [(Str.ofString "at", 2)]) (ρw := [.val (Sq Int) row, .val (List Int) numbers, .non]) C (i_range1p (e_lensq (e_var 0) G.n_len) G.n_range) (fun s H Cc cl fp => ⟨(g_name 2 C.blk.nd), fun _ => lc_none, fun at'2 => e_at [.val (Sq Int) row, .val (List Int) numbers, .val Int at'2] (e_mul (e_ixsqp (e_var 0) (e_var 2)) (e_ixp (EG.lg (e_var 1)) (e_var 2)))⟩))) G.n_sum))
def m__law_says (told : Bool) (due : Bool) : Res Bool :=
  (if due then (Res.ok (decide (told = true))) else (Res.ok (decide (told = false))))
abbrev s__law_says : Stmt := topS 11
theorem sc__law_says : FnScope ["told", "due"] ["told", "due"] (defScope s__law_says) := ⟨rfl, rfl, rfl, by decide +kernel, rfl, by decide +kernel, by decide +kernel⟩
theorem ok__law_says {P : Program} {w : World} {K : PySem.W.Frag} {mg : Str → Option Value} {base : Heap} (G : Fx P K mg) : FOk P w K mg base "_law_says" 1 (spOf K (asC (T := Bool) (asC (T := Bool) asN)) (fun u : Bool × Bool × Unit => m__law_says u.1 u.2.1)) := by
  obtain ⟨fd, F⟩ := G.d__law_says
  refine fok_data (ρ0 := fun u : Bool × Bool × Unit => [.val Bool u.1, .val Bool u.2.1]) F G.g__law_says sc__law_says (F.bindsN (ps := ["told", "due"]) fun _ _ _ _ _ _ us hl => match us, hl with | [_, _], _ => rfl) (by intro _; rfl) (by intro _; rfl) fun cdv A outer s H E C => ?_
  rintro ⟨told, due, ⟨⟩⟩
  show SR _ _ none [.val Bool told, .val Bool due] _ (retD Bool) (m__law_says told due)
  unfold m__law_says
  exact (r_ifp (t_val (e_var 1)) (r_ret (CJ.v (e_isBp (e_var 0) e_bool))) (r_ret (CJ.v (e_isBp (e_var 0) e_bool))))
def m__law_alike_r : Nat → PD → PD → Res Bool
  | 0, _, _ => .bad
  | n' + 1, told, due =>
  (if ((isTup due) || (isLst due)) then (if ((!decide ((isTup due) = (isTup told))) || (!decide ((isLst due) = (isLst told)))) then (Res.ok false) else (Res.bind (Res.bind (Len.len told) fun x1 => Res.bind (Len.len due) fun y2 => Res.ok (!decide (x1 = y2))) fun k11 => if k11 then (Res.ok false) else (thenR (Res.bind (Res.bind (Len.len due) fun x3 => guardR (inRange x3) (Res.ok (rng 0 x3))) fun z10 => forC (fun (r4 : Unit) at'5 => (Res.bind (Res.bind (Res.bind (idxD told at'5) fun a6 => Res.bind (idxD due at'5) fun a7 => m__law_alike_r n' a6 a7) fun x8 => Res.ok (!x8)) fun k9 => if k9 then liftC (Res.ok (Ctl.rt false)) else (Res.ok (Ctl.nx ())))) z10 ()) fun r4 => (Res.ok true)))) else (if (isNon due) then (Res.ok (isNon told)) else (if (isBl due) then (Res.bind (asB told) fun a12 => Res.bind (asB due) fun a13 => m__law_says a12 a13) else (if (isInt due) then (andM (m__law_is_whole told) (eqvD told due)) else (andM (Res.ok (isStr told)) (eqvD told due))))))
def m__law_alike (told : PD) (due : PD) : Res Bool := m__law_alike_r 8 told due
abbrev s__law_alike : Stmt := topS 12
theorem sc__law_alike : FnScope ["told", "due", "at"] ["told", "due"] (defScope s__law_alike) := ⟨rfl, rfl, rfl, by decide +kernel, rfl, by decide +kernel, by decide +kernel⟩
theorem okr__law_alike {P : Program} {w : World} {K : PySem.W.Frag} {mg : Str → Option Value} {base : Heap} (G : Fx P K mg) : ∀ n, FOk P w K mg base "_law_alike" (n + 2) (spOf K (asC (T := PD) (asC (T := PD) asN)) (fun u : PD × PD × Unit => m__law_alike_r n u.1 u.2.1)) := by
  obtain ⟨fd, F⟩ := G.d__law_alike
  intro n
  induction n with
  | zero => exact fok_bad F G.g__law_alike (F.bindsN (ps := ["told", "due"]) fun _ _ _ _ _ _ us hl => match us, hl with | [_, _], _ => rfl) fun u => rfl
  | succ n' ih =>
  have h : FOk P w K mg base "_law_alike" ((n' + 2) + 1) (spOf K (asC (T := PD) (asC (T := PD) asN)) (fun u : PD × PD × Unit => m__law_alike_r (n' + 1) u.1 u.2.1)) := by
    refine fok_data (ρ0 := fun u : PD × PD × Unit => [.val PD u.1, .val PD u.2.1, .non]) F G.g__law_alike sc__law_alike (F.bindsN (ps := ["told", "due"]) fun _ _ _ _ _ _ us hl => match us, hl with | [_, _], _ => rfl) (by intro _; rfl) (by intro _; rfl) fun cdv A outer s H E C => ?_
    rintro ⟨told, due, ⟨⟩⟩
    show SR _ _ none [.val PD told, .val PD due, .non] _ (retD Bool) (m__law_alike_r (n' + 1) told due)
    unfold m__law_alike_r
    exact (r_ifp (TWJ.pt (tw_orp (t_val (e_isip (f := isTup) (hk := isTup_ok) (e_var 1) G.n_isinstance G.n_tuple)) (tw_or1 (t_val (e_isip (f := isLst) (hk := isLst_ok) (e_var 1) G.n_isinstance G.n_list))))) (r_ifp (TWJ.pt (tw_orp (CJ.t (e_nep (e_isip (f := isTup) (hk := isTup_ok) (e_var 1) G.n_isinstance G.n_tuple) (e_isip (f := isTup) (hk := isTup_ok) (e_var 0) G.n_isinstance G.n_tuple))) (tw_or1 (CJ.t (e_nep (e_isip (f := isLst) (hk := isLst_ok) (e_var 1) G.n_isinstance G.n_list) (e_isip (f := isLst) (hk := isLst_ok) (e_var 0) G.n_isinstance G.n_list)))))) (r_ret e_bool) (r_if (CJ.t (e_ne (e_lenp (e_var 0) G.n_len) (e_lenp (e_var 1) G.n_len))) (r_ret e_bool) (rc_cons (b := eb) (c_for (ρl := fun (r4 : Unit) => [.val PD told, .val PD due, .non]) (s0 := ()) C (i_range1 (e_lenp (e_var 1) G.n_len) G.n_range) (g_name 2 C.nd) (.s (.s (.n .nil))) (fun r4 at'5 => c_at [.val PD told, .val PD due, .val Int at'5] (c_if1 (t_not (t_val (e_call C ih (a_cons (e_ixDp (e_var 0) (e_var 2)) fun a6 => (a_cons (e_ixDp (e_var 1) (e_var 2)) fun a7 => a_nil)) (hk := by omega)))) (SR.cp (r_ret e_bool)) (c_nil (.s (.s (.n .nil))))))) fun r4 => (r_ret e_bool)))) (r_ifp (CJ.t (e_isNDp (e_var 1))) (r_ret (CJ.v (e_isNDp (e_var 0)))) (r_ifp (t_val (e_isip (f := isBl) (hk := isBl_ok) (e_var 1) G.n_isinstance G.n_bool)) (r_ret (e_call C (ok__law_says G) (a_cons (e_asBp (e_var 0)) fun a12 => (a_cons (e_asBp (e_var 1)) fun a13 => a_nil)) (hk := by omega))) (r_ifp (t_val (e_isip (f := isInt) (hk := isInt_ok) (e_var 1) G.n_isinstance G.n_int)) (r_ret (e_and (e_call C (ok__law_is_whole G) (a_consp (e_var 0) a_nil) (hk := by omega)) (e_and1 (CJ.v (e_eqvDp C (e_var 0) (e_var 1)))))) (r_ret (e_and (e_isip (f := isStr) (hk := isStr_ok) (e_var 0) G.n_isinstance G.n_str) (e_and1 (CJ.v (e_eqvDp C (e_var 0) (e_var 1))))))))))
  have e : n' + 1 + 2 = (n' + 2) + 1 := by omega
  rw [e]
  exact h
theorem ok__law_alike {P : Program} {w : World} {K : PySem.W.Frag} {mg : Str → Option Value} {base : Heap} (G : Fx P K mg) : FOk P w K mg base "_law_alike" 10 (spOf K (asC (T := PD) (asC (T := PD) asN)) (fun u : PD × PD × Unit => m__law_alike u.1 u.2.1)) := okr__law_alike G 8
def m__law_true (sign : Str) (amount : Int) : Res Bool :=
  (if (decide (sign = (Str.ofString ">"))) then (Res.ok (decide (0 < amount))) else (if (decide (sign = (Str.ofString ">="))) then (Res.ok (decide (0 ≤ amount))) else (Res.ok (decide (amount = 0)))))
abbrev s__law_true : Stmt := topS 13
theorem sc__law_true : FnScope ["sign", "amount"] ["sign", "amount"] (defScope s__law_true) := ⟨rfl, rfl, rfl, by decide +kernel, rfl, by decide +kernel, by decide +kernel⟩
theorem ok__law_true {P : Program} {w : World} {K : PySem.W.Frag} {mg : Str → Option Value} {base : Heap} (G : Fx P K mg) : FOk P w K mg base "_law_true" 1 (spOf K (asC (T := Str) (asC (T := Int) asN)) (fun u : Str × Int × Unit => m__law_true u.1 u.2.1)) := by
  obtain ⟨fd, F⟩ := G.d__law_true
  refine fok_data (ρ0 := fun u : Str × Int × Unit => [.val Str u.1, .val Int u.2.1]) F G.g__law_true sc__law_true (F.bindsN (ps := ["sign", "amount"]) fun _ _ _ _ _ _ us hl => match us, hl with | [_, _], _ => rfl) (by intro _; rfl) (by intro _; rfl) fun cdv A outer s H E C => ?_
  rintro ⟨sign, amount, ⟨⟩⟩
  show SR _ _ none [.val Str sign, .val Int amount] _ (retD Bool) (m__law_true sign amount)
  unfold m__law_true
  exact (r_ifp (CJ.t (e_eqp (e_var 0) e_str)) (r_ret (CJ.v (e_gtp (e_var 1) e_int))) (r_ifp (CJ.t (e_eqp (e_var 0) e_str)) (r_ret (CJ.v (e_gep (e_var 1) e_int))) (r_ret (CJ.v (e_eqp (e_var 1) e_int)))))
def m__law_turned (row : List Int) : Res (Tup Int) :=
  (Res.bind (Res.bind (Res.ok row) fun z3 => lcX (fun _ => Res.ok true) (fun x2 => (Res.ok (-x2))) z3) fun x4 => Res.ok (⟨x4⟩ : Tup Int))
abbrev s__law_turned : Stmt := topS 14
theorem sc__law_turned : FnScope ["row", "x"] ["row"] (defScope s__law_turned) := ⟨rfl, rfl, rfl, by decide +kernel, rfl, by decide +kernel, by decide +kernel⟩
theorem ok__law_turned {P : Program} {w : World} {K : PySem.W.Frag} {mg : Str → Option Value} {base : Heap} (G : Fx P K mg) : FOk P w K mg base "_law_turned" 1 (spOf K (asC (T := (List Int)) asN) (fun u : (List Int) × Unit => m__law_turned u.1)) := by
  obtain ⟨fd, F⟩ := G.d__law_turned
  refine fok_data (ρ0 := fun u : (List Int) × Unit => [.val (List Int) u.1, .non]) F G.g__law_turned sc__law_turned (F.bindsN (ps := ["row"]) fun _ _ _ _ _ _ us hl => match us, hl with | [_], _ => rfl) (by intro _; rfl) (by intro _; rfl) fun cdv A outer s H E C => ?_
  rintro ⟨row, ⟨⟩⟩
  show SR _ _ none [.val (List Int) row, .non] _ (retD (Tup Int)) (m__law_turned row)
  unfold m__law_turned
  exact (r_ret (e_tupof (FG.lg (f_lc (ow := [(Str.ofString "x", 1)]) (ρw := [.val (List Int) row, .non]) C (i_list (e_var 0)) (fun s H Cc cl fp => ⟨(g_name 1 C.blk.nd), fun _ => lc_none, fun x2 => e_at [.val (List Int) row, .val Int x2] (e_negp (e_var 1))⟩))) G.n_tuple))
def m__law_contraries (sign : Str) (row : List Int) : Res (List (Str × (Sq Int))) :=
  (if (decide (sign = (Str.ofString ">"))) then (Res.bind (Res.bind (Res.bind (m__law_turned row) fun x1 => Res.ok (Sq.mk true x1.l)) fun a2 => Res.ok ((Str.ofString ">="), a2)) fun a3 => Res.ok [a3]) else (if (decide (sign = (Str.ofString ">="))) then (Res.bind (Res.bind (Res.bind (m__law_turned row) fun x4 => Res.ok (Sq.mk true x4.l)) fun a5 => Res.ok ((Str.ofString ">"), a5)) fun a6 => Res.ok [a6]) else (Res.bind (Res.bind (Res.bind (m__law_turned row) fun x7 => Res.ok (Sq.mk true x7.l)) fun a8 => Res.ok ((Str.ofString ">"), a8)) fun a9 => Res.ok [((Str.ofString ">"), (Sq.mk true (⟨row⟩ : Tup Int).l)), a9])))
abbrev s__law_contraries : Stmt := topS 15
theorem sc__law_contraries : FnScope ["sign", "row"] ["sign", "row"] (defScope s__law_contraries) := ⟨rfl, rfl, rfl, by decide +kernel, rfl, by decide +kernel, by decide +kernel⟩
theorem ok__law_contraries {P : Program} {w : World} {K : PySem.W.Frag} {mg : Str → Option Value} {base : Heap} (G : Fx P K mg) : FOk P w K mg base "_law_contraries" 2 (spFr K (asC (T := Str) (asC (T := (List Int)) asN)) (fun u : Str × (List Int) × Unit => m__law_contraries u.1 u.2.1)) := by
  obtain ⟨fd, F⟩ := G.d__law_contraries
  refine fok_fr (ρ0 := fun u : Str × (List Int) × Unit => [.val Str u.1, .val (List Int) u.2.1]) F G.g__law_contraries sc__law_contraries (F.bindsN (ps := ["sign", "row"]) fun _ _ _ _ _ _ us hl => match us, hl with | [_, _], _ => rfl) (by intro _; rfl) (by intro _; rfl) fun cdv A outer s H E C => ?_
  rintro ⟨sign, row, ⟨⟩⟩
  show SR _ _ none [.val Str sign, .val (List Int) row] _ (retF (Str × (Sq Int))) (m__law_contraries sign row)
  unfold m__law_contraries
  exact (r_ifp (CJ.t (e_eqp (e_var 0) e_str)) (r_retF (f_list (mk := fun u => [u.1]) (a_cons (e_tup (mk := (fun u => (u.1, u.2.1))) (a_consp e_str (a_cons (e_up up_T (e_call C (ok__law_turned G) (a_consp (e_var 1) a_nil))) fun a2 => a_nil))) fun a3 => a_nil))) (r_ifp (CJ.t (e_eqp (e_var 0) e_str)) (r_retF (f_list (mk := fun u => [u.1]) (a_cons (e_tup (mk := (fun u => (u.1, u.2.1))) (a_consp e_str (a_cons (e_up up_T (e_call C (ok__law_turned G) (a_consp (e_var 1) a_nil))) fun a5 => a_nil))) fun a6 => a_nil))) (r_retF (f_list (mk := fun u => [u.1, u.2.1]) (a_consp (e_tup (mk := (fun u => (u.1, u.2.1))) (a_consp e_str (a_consp (e_upp up_T (e_tupofp (EG.lg (e_var 1)) G.n_tuple)) a_nil))) (a_cons (e_tup (mk := (fun u => (u.1, u.2.1))) (a_consp e_str (a_cons (e_up up_T (e_call C (ok__law_turned G) (a_consp (e_var 1) a_nil))) fun a8 => a_nil))) fun a9 => a_nil))))))
def m__law_closed (row : List Int) (place : Int) (amount : Int) : Res (List Int) :=
  (Res.bind (Res.bind (Res.ok row) fun z4 => lcX (fun _ => Res.ok true) (fun x3 => (Res.ok 0)) z4) fun numbers1 => (Res.bind (Res.bind (guardR (inRange (row.length : Int)) (Res.ok (rng 0 (row.length : Int)))) fun z8 => lcX (fun at'7 => (Res.ok (!decide (at'7 = place)))) (fun at'7 => (Res.ok at'7)) z8) fun others5 => (Res.bind (Res.bind (Res.bind (divM (others5.length : Int) 2) fun x9 => guardR (inRange x9) (Res.ok (rng 0 x9))) fun z27 => forR (fun (r10 : (List Int)) turn11 => (Res.bind (Res.bind (Res.ok others5) fun x13 => Res.bind (mulM 2 turn11) fun y14 => idxM x13 y14) fun one12 => (Res.bind (Res.bind (Res.ok others5) fun x18 => Res.bind (Res.bind (mulM 2 turn11) fun x16 => Res.bind (Res.ok 1) fun y17 => Res.ok (x16 + y17)) fun y19 => idxM x18 y19) fun two15 => (Res.bind (Res.bind (idxM row two15) fun a21 => Res.bind (Res.ok one12) fun b22 => setM r10 b22 a21) fun numbers20 => (Res.bind (Res.bind (Res.bind (idxM row one12) fun x23 => Res.ok (-x23)) fun a25 => Res.bind (Res.ok two15) fun b26 => setM numbers20 b26 a25) fun numbers24 => (Res.ok numbers24)))))) z27 numbers1) fun r10 => (Res.bind (if (decide (0 < (row.length : Int))) then (Res.bind (Res.bind (Res.ok amount) fun a30 => Res.bind (Res.ok place) fun b31 => setM r10 b31 a30) fun numbers29 => (Res.ok numbers29)) else (Res.ok r10)) fun r28 => (Res.ok r28)))))
abbrev s__law_closed : Stmt := topS 16
theorem sc__law_closed : FnScope ["row", "place", "amount", "numbers", "others", "turn", "one", "two", "x", "at"] ["row", "place", "amount"] (defScope s__law_closed) := ⟨rfl, rfl, rfl, by decide +kernel, rfl, by decide +kernel, by decide +kernel⟩
theorem ok__law_closed {P : Program} {w : World} {K : PySem.W.Frag} {mg : Str → Option Value} {base : Heap} (G : Fx P K mg) : FOk P w K mg base "_law_closed" 1 (spFr K (asC (T := (List Int)) (asC (T := Int) (asC (T := Int) asN))) (fun u : (List Int) × Int × Int × Unit => m__law_closed u.1 u.2.1 u.2.2.1)) := by
  obtain ⟨fd, F⟩ := G.d__law_closed
  refine fok_fr (ρ0 := fun u : (List Int) × Int × Int × Unit => [.val (List Int) u.1, .val Int u.2.1, .val Int u.2.2.1, .non, .non, .non, .non, .non, .non, .non]) F G.g__law_closed sc__law_closed (F.bindsN (ps := ["row", "place", "amount"]) fun _ _ _ _ _ _ us hl => match us, hl with | [_, _, _], _ => rfl) (by intro _; rfl) (by intro _; rfl) fun cdv A outer s H E C => ?_
  rintro ⟨row, place, amount, ⟨⟩⟩
  show SR _ _ none [.val (List Int) row, .val Int place, .val Int amount, .non, .non, .non, .non, .non, .non, .non] _ (retF Int) (m__law_closed row place amount)
  unfold m__law_closed
  exact (r_cons (n_lcF 3 (n3 := fun numbers1 => [.val (List Int) row, .val Int place, .val Int amount, .own Int none numbers1, .non, .non, .non, .non, .non, .non]) (ow := [(Str.ofString "x", 8)]) (ρw := [.val (List Int) row, .val Int place, .val Int amount, .non, .non, .non, .non, .non, .non, .non]) C (i_list (e_var 0)) (fun s H Cc cl fp => ⟨(g_name 8 C.blk.nd), fun _ => lc_none, fun x3 => e_at [.val (List Int) row, .val Int place, .val Int amount, .non, .non, .non, .non, .non, .val Int x3, .non] e_int⟩)) fun numbers1 => (r_cons (n_lc 4 (n3 := fun others5 => [.val (List Int) row, .val Int place, .val Int amount, .own Int none numbers1, .val (List Int) others5, .non, .non, .non, .non, .non]) (ow := [(Str.ofString "at", 9)]) (ρw := [.val (List Int) row, .val Int place, .val Int amount, .own Int none numbers1, .non, .non, .non, .non, .non, .non]) C (i_range1p (e_lenl (EG.lg (e_var 0)) G.n_len) G.n_range) (fun s H Cc cl fp => ⟨(g_name 9 C.blk.nd), fun at'7 => lc_one (t_at [.val (List Int) row, .val Int place, .val Int amount, .own Int none numbers1, .non, .non, .non, .non, .non, .val Int at'7] (CJ.t (e_nep (e_var 9) (e_var 1)))), fun at'7 => e_at [.val (List Int) row, .val Int place, .val Int amount, .own Int none numbers1, .non, .non, .non, .non, .non, .val Int at'7] (e_var 9)⟩)) fun others5 => (r_cons (n_for (ρl := fun (r10 : (List Int)) => [.val (List Int) row, .val Int place, .val Int amount, .own Int none r10, .val (List Int) others5, .non, .non, .non, .non, .non]) (s0 := numbers1) C (i_range1 (e_fdivp (e_lenl (EG.lg (e_var 4)) G.n_len) e_int) G.n_range) (g_name 5 C.nd) (.s (.s (.s (.s (.s (.n (.n (.n (.n (.n .nil)))))))))) (fun r10 turn11 => b_at [.val (List Int) row, .val Int place, .val Int amount, .own Int none r10, .val (List Int) others5, .val Int turn11, .non, .non, .non, .non] (b_cons (n_set 6 (n3 := fun one12 => [.val (List Int) row, .val Int place, .val Int amount, .own Int none r10, .val (List Int) others5, .val Int turn11, .val Int one12, .non, .non, .non]) C.nd (e_ix (EG.lg (e_var 4)) (e_mulp e_int (e_var 5)))) fun one12 => (b_cons (n_set 7 (n3 := fun two15 => [.val (List Int) row, .val Int place, .val Int amount, .own Int none r10, .val (List Int) others5, .val Int turn11, .val Int one12, .val Int two15, .non, .non]) C.nd (e_ix (EG.lg (e_var 4)) (e_add (e_mulp e_int (e_var 5)) e_int))) fun two15 => (b_cons (n_setix 3 (n3 := fun numbers20 => [.val (List Int) row, .val Int place, .val Int amount, .own Int none numbers20, .val (List Int) others5, .val Int turn11, .val Int one12, .val Int two15, .non, .non]) (e_ixp (EG.lg (e_var 0)) (e_var 7)) (e_var 6)) fun numbers20 => (b_cons (n_setix 3 (n3 := fun numbers24 => [.val (List Int) row, .val Int place, .val Int amount, .own Int none numbers24, .val (List Int) others5, .val Int turn11, .val Int one12, .val Int two15, .non, .non]) (e_neg (e_ixp (EG.lg (e_var 0)) (e_var 6))) (e_var 7)) fun numbers24 => (b_nil (.s (.s (.s (.s (.s (.n (.n (.n (.n (.n .nil))))))))))))))))) fun r10 => (r_cons (n_ifp (n := fun (r28 : (List Int)) => [.val (List Int) row, .val Int place, .val Int amount, .own Int none r28, .val (List Int) others5, .non, .non, .non, .non, .non]) (CJ.t (e_gtp (e_lenl (EG.lg (e_var 0)) G.n_len) e_int)) (b_cons (n_setix 3 (n3 := fun numbers29 => [.val (List Int) row, .val Int place, .val Int amount, .own Int none numbers29, .val (List Int) others5, .non, .non, .non, .non, .non]) (e_var 2) (e_var 1)) fun numbers29 => (b_nil (.s (.s (.s (.s (.s (.n (.n (.n (.n (.n .nil)))))))))))) (b_nil (.s (.s (.s (.s (.s (.n (.n (.n (.n (.n .nil)))))))))))) fun r28 => (r_retOwn 3)))))
def m__law_told (line : Str × (Sq Int)) (due : List (Str × (Sq Int))) : Res Bool :=
  (Res.bind (m_contraries line) fun told1 => (Res.bind (Res.bind ((m__law_alike (PD.mk (Dat.toD told1)) (PD.mk (Dat.toD due))).quiet) fun x2 => Res.ok (!x2)) fun k18 => if k18 then (Res.ok false) else (Res.bind (Res.bind (Res.ok line) fun y4 => appM told1 y4) fun told3 => (Res.bind (Res.bind (Res.bind (Res.bind (m_contraries line) fun x5 => Res.ok (PD.mk (Dat.toD x5))) fun a6 => m__law_alike a6 (PD.mk (Dat.toD due))) fun x7 => Res.ok (!x7)) fun k17 => if k17 then (Res.ok false) else (Res.bind (Res.bind (Res.bind (idxM due 0) fun x9 => Res.ok x9.1) fun a12 => Res.bind (Res.bind (Res.bind (idxM due 0) fun x10 => Res.ok x10.2) fun x11 => Res.ok x11.l) fun a13 => m__law_contraries a12 a13) fun first8 => (Res.bind (Res.bind (Res.bind (idxM due 0) fun a14 => m_contraries a14) fun x15 => Res.ok (PD.mk (Dat.toD x15))) fun a16 => m__law_alike a16 (PD.mk (Dat.toD first8))))))))
abbrev s__law_told : Stmt := topS 17
theorem sc__law_told : FnScope ["line", "due", "told", "first"] ["line", "due"] (defScope s__law_told) := ⟨rfl, rfl, rfl, by decide +kernel, rfl, by decide +kernel, by decide +kernel⟩
theorem ok__law_told {P : Program} {w : World} {K : PySem.W.Frag} {mg : Str → Option Value} {base : Heap} (G : Fx P K mg) : FOk P w K mg base "_law_told" 11 (spOf K (asC (T := (Str × (Sq Int))) (asC (T := (List (Str × (Sq Int)))) asN)) (fun u : (Str × (Sq Int)) × (List (Str × (Sq Int))) × Unit => m__law_told u.1 u.2.1)) := by
  obtain ⟨fd, F⟩ := G.d__law_told
  refine fok_data (ρ0 := fun u : (Str × (Sq Int)) × (List (Str × (Sq Int))) × Unit => [.val (Str × (Sq Int)) u.1, .val (List (Str × (Sq Int))) u.2.1, .non, .non]) F G.g__law_told sc__law_told (F.bindsN (ps := ["line", "due"]) fun _ _ _ _ _ _ us hl => match us, hl with | [_, _], _ => rfl) (by intro _; rfl) (by intro _; rfl) fun cdv A outer s H E C => ?_
  rintro ⟨line, due, ⟨⟩⟩
  show SR _ _ none [.val (Str × (Sq Int)) line, .val (List (Str × (Sq Int))) due, .non, .non] _ (retD Bool) (m__law_told line due)
  unfold m__law_told
  exact (r_cons (n_setF 2 (n3 := fun told1 => [.val (Str × (Sq Int)) line, .val (List (Str × (Sq Int))) due, .own (Str × (Sq Int)) none told1, .non]) C.nd (f_call C (ok_contraries G) (a_consp (e_var 0) a_nil))) fun told1 => (r_if (t_not (t_val (EG.flat (e_callb C (ok__law_alike G) (a_consp (e_toDp (e_own 2)) (a_consp (EG.borrow (e_toDp (e_var 1))) a_nil)))))) (r_ret e_bool) (r_cons (n_app 2 (n3 := fun told3 => [.val (Str × (Sq Int)) line, .val (List (Str × (Sq Int))) due, .own (Str × (Sq Int)) none told3, .non]) (e_var 0)) fun told3 => (r_if (t_not (t_val (e_call C (ok__law_alike G) (a_cons (e_toD (FG.ej (f_call C (ok_contraries G) (a_consp (e_var 0) a_nil)))) fun a6 => (a_consp (e_toDp (e_var 1)) a_nil))))) (r_ret e_bool) (r_cons (n_set 3 (n3 := fun first8 => [.val (Str × (Sq Int)) line, .val (List (Str × (Sq Int))) due, .own (Str × (Sq Int)) none told3, .val (List (Str × (Sq Int))) first8]) C.nd (FG.ej (f_call C (ok__law_contraries G) (a_cons (e_pl (j := 0) (f := fun (x : (Str × (Sq Int))) => x.1) (e_ixp (EG.lg (e_var 1)) e_int)) fun a12 => (a_cons (FG.ej (f_listofsq (e_pl (j := 1) (f := fun (x : (Str × (Sq Int))) => x.2) (e_ixp (EG.lg (e_var 1)) e_int)) G.n_list)) fun a13 => a_nil))))) fun first8 => (r_ret (e_call C (ok__law_alike G) (a_cons (e_toD (FG.ej (f_call C (ok_contraries G) (a_cons (e_ixp (EG.lg (e_var 1)) e_int) fun a14 => a_nil)))) fun a16 => (a_consp (e_toDp (e_var 3)) a_nil)))))))))
def m__law_line_right (sign : Str) (row : List Int) (numbers : List Int) : Res Bool :=
  (Res.bind (m__law_value (Sq.mk false row) numbers) fun amount1 => (Res.bind (m__law_contraries sign row) fun due2 => (thenR (Res.bind (Res.ok [(sign, (Sq.mk true (⟨row⟩ : Tup Int).l)), (sign, (Sq.mk false row))]) fun z22 => forC (fun (r3 : Unit) line4 => (Res.bind (Res.ok numbers) fun handed5 => (Res.bind (orM (Res.bind (Res.bind (Res.bind (m_value line4.2 handed5) fun x6 => Res.ok (PD.mk (Dat.toD x6))) fun a7 => m__law_alike a7 (PD.mk (Dat.toD amount1))) fun x8 => Res.ok (!x8)) (Res.bind (m__law_told line4 due2) fun x9 => Res.ok (!x9))) fun k21 => if k21 then liftC (Res.ok (Ctl.rt false)) else (Res.bind (Res.ok 0) fun held10 => (thenC (Res.bind (catM [line4] due2) fun z20 => forC (fun (r11 : Int) other12 => (Res.bind (Res.bind (m__law_value other12.2 numbers) fun a14 => m__law_true other12.1 a14) fun says13 => (Res.bind (Res.bind (Res.bind (m_holds other12 handed5) fun a15 => m__law_says a15 says13) fun x16 => Res.ok (!x16)) fun k19 => if k19 then liftC (Res.ok (Ctl.rt false)) else (Res.bind (if says13 then (Res.bind (Res.ok (r11 + 1)) fun held18 => (Res.ok held18)) else (Res.ok r11)) fun r17 => (Res.ok (Ctl.nx r17)))))) z20 held10) fun r11 => (if ((!decide (r11 = 1)) || (((!Dat.dec handed5 numbers)) || ((!Dat.dec line4.2.l row)))) then liftC (Res.ok (Ctl.rt false)) else (Res.ok (Ctl.nx ())))))))) z22 ()) fun r3 => (Res.ok true))))
abbrev s__law_line_right : Stmt := topS 18
theorem sc__law_line_right : FnScope ["sign", "row", "numbers", "amount", "due", "line", "handed", "held", "other", "says"] ["sign", "row", "numbers"] (defScope s__law_line_right) := ⟨rfl, rfl, rfl, by decide +kernel, rfl, by decide +kernel, by decide +kernel⟩
theorem ok__law_line_right {P : Program} {w : World} {K : PySem.W.Frag} {mg : Str → Option Value} {base : Heap} (G : Fx P K mg) : FOk P w K mg base "_law_line_right" 12 (spOf K (asC (T := Str) (asC (T := (List Int)) (asC (T := (List Int)) asN))) (fun u : Str × (List Int) × (List Int) × Unit => m__law_line_right u.1 u.2.1 u.2.2.1)) := by
  obtain ⟨fd, F⟩ := G.d__law_line_right
  refine fok_data (ρ0 := fun u : Str × (List Int) × (List Int) × Unit => [.val Str u.1, .val (List Int) u.2.1, .val (List Int) u.2.2.1, .non, .non, .non, .non, .non, .non, .non]) F G.g__law_line_right sc__law_line_right (F.bindsN (ps := ["sign", "row", "numbers"]) fun _ _ _ _ _ _ us hl => match us, hl with | [_, _, _], _ => rfl) (by intro _; rfl) (by intro _; rfl) fun cdv A outer s H E C => ?_
  rintro ⟨sign, row, numbers, ⟨⟩⟩
  show SR _ _ none [.val Str sign, .val (List Int) row, .val (List Int) numbers, .non, .non, .non, .non, .non, .non, .non] _ (retD Bool) (m__law_line_right sign row numbers)
  unfold m__law_line_right
  exact (r_cons (n_set 3 (n3 := fun amount1 => [.val Str sign, .val (List Int) row, .val (List Int) numbers, .val Int amount1, .non, .non, .non, .non, .non, .non]) C.nd (e_call C (ok__law_value G) (a_consp (e_upp up_L (e_var 1)) (a_consp (e_var 2) a_nil)))) fun amount1 => (r_cons (n_set 4 (n3 := fun due2 => [.val Str sign, .val (List Int) row, .val (List Int) numbers, .val Int amount1, .val (List (Str × (Sq Int))) due2, .non, .non, .non, .non, .non]) C.nd (FG.ej (f_call C (ok__law_contraries G) (a_consp (e_var 0) (a_consp (e_var 1) a_nil))))) fun due2 => (rc_cons (b := eb) (c_for (ρl := fun (r3 : Unit) => [.val Str sign, .val (List Int) row, .val (List Int) numbers, .val Int amount1, .val (List (Str × (Sq Int))) due2, .non, .non, .non, .non, .non]) (s0 := ()) C (i_list (FG.ej (f_list (mk := fun u => [u.1, u.2.1]) (a_consp (e_tup (mk := (fun u => (u.1, u.2.1))) (a_consp (e_var 0) (a_consp (e_upp up_T (e_tupofp (EG.lg (e_var 1)) G.n_tuple)) a_nil))) (a_consp (e_tup (mk := (fun u => (u.1, u.2.1))) (a_consp (e_var 0) (a_consp (e_upp up_L (FG.ej (f_listofp (EG.lg (e_var 1)) G.n_list))) a_nil))) a_nil))))) (g_name 5 C.nd) (.s (.s (.s (.s (.s (.n (.n (.n (.n (.n .nil)))))))))) (fun r3 line4 => c_at [.val Str sign, .val (List Int) row, .val (List Int) numbers, .val Int amount1, .val (List (Str × (Sq Int))) due2, .val (Str × (Sq Int)) line4, .non, .non, .non, .non] (c_cons (n_set 6 (n3 := fun handed5 => [.val Str sign, .val (List Int) row, .val (List Int) numbers, .val Int amount1, .val (List (Str × (Sq Int))) due2, .val (Str × (Sq Int)) line4, .val (List Int) handed5, .non, .non, .non]) C.nd (FG.ej (f_listofp (EG.lg (e_var 2)) G.n_list))) fun handed5 => (c_if1 (TWJ.pt (tw_or (t_not (t_val (e_call C (ok__law_alike G) (a_cons (e_toD (e_call C (ok_value G) (a_consp (e_plp (j := 1) (f := fun (x : (Str × (Sq Int))) => x.2) (e_var 5)) (a_consp (e_var 6) a_nil)))) fun a7 => (a_consp (e_toDp (e_var 3)) a_nil))))) (tw_or1 (t_not (t_val (e_call C (ok__law_told G) (a_consp (e_var 5) (a_consp (e_var 4) a_nil)))))))) (SR.cp (r_ret e_bool)) (c_cons (n_set 7 (n3 := fun held10 => [.val Str sign, .val (List Int) row, .val (List Int) numbers, .val Int amount1, .val (List (Str × (Sq Int))) due2, .val (Str × (Sq Int)) line4, .val (List Int) handed5, .val Int held10, .non, .non]) C.nd e_int) fun held10 => (cc_cons (c_for (ρl := fun (r11 : Int) => [.val Str sign, .val (List Int) row, .val (List Int) numbers, .val Int amount1, .val (List (Str × (Sq Int))) due2, .val (Str × (Sq Int)) line4, .val (List Int) handed5, .val Int r11, .non, .non]) (s0 := held10) C (i_list (FG.ej (f_catp (FG.lg (f_list (mk := fun u => [u.1]) (a_consp (e_var 5) a_nil))) (EG.lg (e_var 4))))) (g_name 8 C.nd) (.s (.s (.s (.s (.s (.s (.s (.s (.n (.n .nil)))))))))) (fun r11 other12 => c_at [.val Str sign, .val (List Int) row, .val (List Int) numbers, .val Int amount1, .val (List (Str × (Sq Int))) due2, .val (Str × (Sq Int)) line4, .val (List Int) handed5, .val Int r11, .val (Str × (Sq Int)) other12, .non] (c_cons (n_set 9 (n3 := fun says13 => [.val Str sign, .val (List Int) row, .val (List Int) numbers, .val Int amount1, .val (List (Str × (Sq Int))) due2, .val (Str × (Sq Int)) line4, .val (List Int) handed5, .val Int r11, .val (Str × (Sq Int)) other12, .val Bool says13]) C.nd (e_call C (ok__law_true G) (a_consp (e_plp (j := 0) (f := fun (x : (Str × (Sq Int))) => x.1) (e_var 8)) (a_cons (e_call C (ok__law_value G) (a_consp (e_plp (j := 1) (f := fun (x : (Str × (Sq Int))) => x.2) (e_var 8)) (a_consp (e_var 2) a_nil))) fun a14 => a_nil)))) fun says13 => (c_if1 (t_not (t_val (e_call C (ok__law_says G) (a_cons (e_call C (ok_holds G) (a_consp (e_var 8) (a_consp (e_var 6) a_nil))) fun a15 => (a_consp (e_var 9) a_nil))))) (SR.cp (r_ret e_bool)) (c_cons (n_ifp (n := fun (r17 : Int) => [.val Str sign, .val (List Int) row, .val (List Int) numbers, .val Int amount1, .val (List (Str × (Sq Int))) due2, .val (Str × (Sq Int)) line4, .val (List Int) handed5, .val Int r17, .val (Str × (Sq Int)) other12, .val Bool says13]) (t_val (e_var 9)) (b_cons (n_set 7 (n3 := fun held18 => [.val Str sign, .val (List Int) row, .val (List Int) numbers, .val Int amount1, .val (List (Str × (Sq Int))) due2, .val (Str × (Sq Int)) line4, .val (List Int) handed5, .val Int held18, .val (Str × (Sq Int)) other12, .val Bool says13]) C.nd (e_addp (e_var 7) e_int)) fun held18 => (b_nil (.s (.s (.s (.s (.s (.s (.s (.s (.s (.s .nil)))))))))))) (b_nil (.s (.s (.s (.s (.s (.s (.s (.s (.s (.s .nil)))))))))))) fun r17 => (c_nil (.s (.s (.s (.s (.s (.s (.s (.s (.n (.n .nil)))))))))))))))) fun r11 => (c_if1p (TWJ.pt (tw_orp (CJ.t (e_nep (e_var 7) e_int)) (tw_orp (CJ.t (e_nedT C (e_var 6) (e_var 2))) (tw_or1 (CJ.t (e_nedT C (FG.ej (f_listofsqp (e_plp (j := 1) (f := fun (x : (Str × (Sq Int))) => x.2) (e_var 5)) G.n_list)) (e_var 1))))))) (SR.cp (r_ret e_bool)) (c_nil (.s (.s (.s (.s (.s (.n (.n (.n (.n (.n .nil)))))))))))))))))) fun r3 => (r_ret e_bool))))
def m__law_fits (count : Int) (lines : List (Str × (Tup Int))) (numbers : List Int) : Res Bool :=
  (if (!decide ((numbers.length : Int) = count)) then (Res.ok false) else (Res.bind (Res.bind (Res.bind (Res.ok lines) fun z5 => lcX (fun line2 => (Res.bind (Res.bind (m__law_value (Sq.mk true line2.2.l) numbers) fun a3 => m__law_true line2.1 a3) fun x4 => Res.ok (!x4))) (fun line2 => (Res.ok line2)) z5) Len.len) fun x6 => Res.bind (Res.ok 0) fun y7 => Res.ok (decide (x6 = y7))))
abbrev s__law_fits : Stmt := topS 19
theorem sc__law_fits : FnScope ["count", "lines", "numbers", "line"] ["count", "lines", "numbers"] (defScope s__law_fits) := ⟨rfl, rfl, rfl, by decide +kernel, rfl, by decide +kernel, by decide +kernel⟩
theorem ok__law_fits {P : Program} {w : World} {K : PySem.W.Frag} {mg : Str → Option Value} {base : Heap} (G : Fx P K mg) : FOk P w K mg base "_law_fits" 2 (spOf K (asC (T := Int) (asC (T := (List (Str × (Tup Int)))) (asC (T := (List Int)) asN))) (fun u : Int × (List (Str × (Tup Int))) × (List Int) × Unit => m__law_fits u.1 u.2.1 u.2.2.1)) := by
  obtain ⟨fd, F⟩ := G.d__law_fits
  refine fok_data (ρ0 := fun u : Int × (List (Str × (Tup Int))) × (List Int) × Unit => [.val Int u.1, .val (List (Str × (Tup Int))) u.2.1, .val (List Int) u.2.2.1, .non]) F G.g__law_fits sc__law_fits (F.bindsN (ps := ["count", "lines", "numbers"]) fun _ _ _ _ _ _ us hl => match us, hl with | [_, _, _], _ => rfl) (by intro _; rfl) (by intro _; rfl) fun cdv A outer s H E C => ?_
  rintro ⟨count, lines, numbers, ⟨⟩⟩
  show SR _ _ none [.val Int count, .val (List (Str × (Tup Int))) lines, .val (List Int) numbers, .non] _ (retD Bool) (m__law_fits count lines numbers)
  unfold m__law_fits
  exact (r_ifp (CJ.t (e_nep (e_lenl (EG.lg (e_var 2)) G.n_len) (e_var 0))) (r_ret e_bool) (r_ret (CJ.v (e_eq (e_len (FG.ej (f_lc (ow := [(Str.ofString "line", 3)]) (ρw := [.val Int count, .val (List (Str × (Tup Int))) lines, .val (List Int) numbers, .non]) C (i_list (e_var 1)) (fun s H Cc cl fp => ⟨(g_name 3 C.blk.nd), fun line2 => lc_one (t_at [.val Int count, .val (List (Str × (Tup Int))) lines, .val (List Int) numbers, .val (Str × (Tup Int)) line2] (t_not (t_val (e_call C.blk (ok__law_true G) (a_consp (e_plp (j := 0) (f := fun (x : (Str × (Tup Int))) => x.1) (e_var 3)) (a_cons (e_call C.blk (ok__law_value G) (a_consp (e_upp up_T (e_plp (j := 1) (f := fun (x : (Str × (Tup Int))) => x.2) (e_var 3))) (a_consp (e_var 2) a_nil))) fun a3 => a_nil)))))), fun line2 => e_at [.val Int count, .val (List (Str × (Tup Int))) lines, .val (List Int) numbers, .val (Str × (Tup Int)) line2] (e_var 3)⟩))) G.n_len) e_int))))
def m__law_balances (count : Int) (lines : List (Str × (Tup Int))) (times : List Int) : Res Bool :=
  (if (!decide ((times.length : Int) = (lines.length : Int))) then (Res.ok false) else (Res.bind (Res.ok 0) fun more1 => (thenR (Res.bind (guardR (inRange (lines.length : Int)) (Res.ok (rng 0 (lines.length : Int)))) fun z18 => forC (fun (r2 : Int) at'3 => (Res.bind (andM (Res.bind (idxM times at'3) fun x4 => Res.bind (Res.ok 0) fun y5 => Res.ok (decide (x4 < y5))) (Res.bind (Res.bind (idxM lines at'3) fun x6 => Res.ok x6.1) fun x7 => Res.bind (Res.ok (Str.ofString "=")) fun y8 => Res.ok (!decide (x7 = y8)))) fun k17 => if k17 then liftC (Res.ok (Ctl.rt false)) else (Res.bind (Res.bind (andM (Res.bind (idxM times at'3) fun x9 => Res.bind (Res.ok 0) fun y10 => Res.ok (decide (y10 < x9))) (Res.bind (Res.bind (idxM lines at'3) fun x11 => Res.ok x11.1) fun x12 => Res.bind (Res.ok (Str.ofString ">")) fun y13 => Res.ok (decide (x12 = y13)))) fun k16 => if k16 then (Res.bind (Res.ok (r2 + 1)) fun more15 => (Res.ok more15)) else (Res.ok r2)) fun r14 => (Res.ok (Ctl.nx r14))))) z18 more1) fun r2 => (thenR (Res.bind (guardR (inRange count) (Res.ok (rng 0 count))) fun z33 => forC (fun (r19 : Unit) unknown20 => (Res.bind (Res.bind (Res.bind (Res.bind (guardR (inRange (lines.length : Int)) (Res.ok (rng 0 (lines.length : Int)))) fun z28 => lcX (fun _ => Res.ok true) (fun at'22 => (Res.bind (Res.bind (Res.bind (idxM lines at'22) fun x23 => Res.ok x23.2) fun x24 => Res.bind (Res.ok unknown20) fun y25 => idxM x24.l y25) fun x26 => Res.bind (idxM times at'22) fun y27 => mulM x26 y27)) z28) fun x29 => Res.ok x29.sum) fun x30 => Res.bind (Res.ok 0) fun y31 => Res.ok (!decide (x30 = y31))) fun k32 => if k32 then liftC (Res.ok (Ctl.rt false)) else (Res.ok (Ctl.nx ())))) z33 ()) fun r19 => (Res.ok (decide (0 < r2)))))))
abbrev s__law_balances : Stmt := topS 20
theorem sc__law_balances : FnScope ["count", "lines", "times", "more", "at", "unknown"] ["count", "lines", "times"] (defScope s__law_balances) := ⟨rfl, rfl, rfl, by decide +kernel, rfl, by decide +kernel, by decide +kernel⟩
theorem ok__law_balances {P : Program} {w : World} {K : PySem.W.Frag} {mg : Str → Option Value} {base : Heap} (G : Fx P K mg) : FOk P w K mg base "_law_balances" 1 (spOf K (asC (T := Int) (asC (T := (List (Str × (Tup Int)))) (asC (T := (List Int)) asN))) (fun u : Int × (List (Str × (Tup Int))) × (List Int) × Unit => m__law_balances u.1 u.2.1 u.2.2.1)) := by
  obtain ⟨fd, F⟩ := G.d__law_balances
  refine fok_data (ρ0 := fun u : Int × (List (Str × (Tup Int))) × (List Int) × Unit => [.val Int u.1, .val (List (Str × (Tup Int))) u.2.1, .val (List Int) u.2.2.1, .non, .non, .non]) F G.g__law_balances sc__law_balances (F.bindsN (ps := ["count", "lines", "times"]) fun _ _ _ _ _ _ us hl => match us, hl with | [_, _, _], _ => rfl) (by intro _; rfl) (by intro _; rfl) fun cdv A outer s H E C => ?_
  rintro ⟨count, lines, times, ⟨⟩⟩
  show SR _ _ none [.val Int count, .val (List (Str × (Tup Int))) lines, .val (List Int) times, .non, .non, .non] _ (retD Bool) (m__law_balances count lines times)
  unfold m__law_balances
  exact (r_ifp (CJ.t (e_nep (e_lenl (EG.lg (e_var 2)) G.n_len) (e_lenl (EG.lg (e_var 1)) G.n_len))) (r_ret e_bool) (r_cons (n_set 3 (n3 := fun more1 => [.val Int count, .val (List (Str × (Tup Int))) lines, .val (List Int) times, .val Int more1, .non, .non]) C.nd e_int) fun more1 => (rc_cons (b := eb) (c_for (ρl := fun (r2 : Int) => [.val Int count, .val (List (Str × (Tup Int))) lines, .val (List Int) times, .val Int r2, .non, .non]) (s0 := more1) C (i_range1p (e_lenl (EG.lg (e_var 1)) G.n_len) G.n_range) (g_name 4 C.nd) (.s (.s (.s (.s (.n (.n .nil)))))) (fun r2 at'3 => c_at [.val Int count, .val (List (Str × (Tup Int))) lines, .val (List Int) times, .val Int r2, .val Int at'3, .non] (c_if1 (TWJ.pt (tw_and (CJ.t (e_lt (e_ixp (EG.lg (e_var 2)) (e_var 4)) e_int)) (tw_and1 (CJ.t (e_ne (e_pl (j := 0) (f := fun (x : (Str × (Tup Int))) => x.1) (e_ixp (EG.lg (e_var 1)) (e_var 4))) e_str))))) (SR.cp (r_ret e_bool)) (c_cons (n_if (n := fun (r14 : Int) => [.val Int count, .val (List (Str × (Tup Int))) lines, .val (List Int) times, .val Int r14, .val Int at'3, .non]) (TWJ.pt (tw_and (CJ.t (e_gt (e_ixp (EG.lg (e_var 2)) (e_var 4)) e_int)) (tw_and1 (CJ.t (e_eq (e_pl (j := 0) (f := fun (x : (Str × (Tup Int))) => x.1) (e_ixp (EG.lg (e_var 1)) (e_var 4))) e_str))))) (b_cons (n_set 3 (n3 := fun more15 => [.val Int count, .val (List (Str × (Tup Int))) lines, .val (List Int) times, .val Int more15, .val Int at'3, .non]) C.nd (e_addp (e_var 3) e_int)) fun more15 => (b_nil (.s (.s (.s (.s (.s (.n .nil)))))))) (b_nil (.s (.s (.s (.s (.s (.n .nil)))))))) fun r14 => (c_nil (.s (.s (.s (.s (.n (.n .nil))))))))))) fun r2 => (rc_cons (b := eb) (c_for (ρl := fun (r19 : Unit) => [.val Int count, .val (List (Str × (Tup Int))) lines, .val (List Int) times, .val Int r2, .non, .non]) (s0 := ()) C (i_range1p (e_var 0) G.n_range) (g_name 5 C.nd) (.s (.s (.s (.s (.n (.n .nil)))))) (fun r19 unknown20 => c_at [.val Int count, .val (List (Str × (Tup Int))) lines, .val (List Int) times, .val Int r2, .non, .val Int unknown20] (c_if1 (CJ.t (e_ne (e_sum C.calm (FG.lg (f_lc (ow := [(Str.ofString "at", 4)]) (ρw := [.val Int count, .val (List (Str × (Tup Int))) lines, .val (List Int) times, .val Int r2, .non, .val Int unknown20]) C (i_range1p (e_lenl (EG.lg (e_var 1)) G.n_len) G.n_range) (fun s H Cc cl fp => ⟨(g_name 4 C.blk.nd), fun _ => lc_none, fun at'22 => e_at [.val Int count, .val (List (Str × (Tup Int))) lines, .val (List Int) times, .val Int r2, .val Int at'22, .val Int unknown20] (e_mul (e_ixt (e_pl (j := 1) (f := fun (x : (Str × (Tup Int))) => x.2) (e_ixp (EG.lg (e_var 1)) (e_var 4))) (e_var 5)) (e_ixp (EG.lg (e_var 2)) (e_var 4)))⟩))) G.n_sum) e_int)) (SR.cp (r_ret e_bool)) (c_nil (.s (.s (.s (.s (.n (.n .nil)))))))))) fun r19 => (r_ret (CJ.v (e_gtp (e_var 3) e_int)))))))
def m__law_balance_judged (count : Int) (lines : List (Str × (Tup Int))) (times : List Int) : Res Bool :=
  (Res.bind (Res.ok lines) fun handed1 => (Res.bind (Res.ok times) fun amounts2 => (Res.bind (m__law_balances count lines times) fun due3 => (andM (Res.bind (m_balances count handed1 amounts2) fun a4 => m__law_says a4 due3) (andM (Res.bind (Res.ok handed1) fun x5 => Res.bind (Res.ok lines) fun y6 => eqD x5 y6) (Res.ok (Dat.dec amounts2 times)))))))
abbrev s__law_balance_judged : Stmt := topS 21
theorem sc__law_balance_judged : FnScope ["count", "lines", "times", "handed", "amounts", "due"] ["count", "lines", "times"] (defScope s__law_balance_judged) := ⟨rfl, rfl, rfl, by decide +kernel, rfl, by decide +kernel, by decide +kernel⟩
theorem ok__law_balance_judged {P : Program} {w : World} {K : PySem.W.Frag} {mg : Str → Option Value} {base : Heap} (G : Fx P K mg) : FOk P w K mg base "_law_balance_judged" 2 (spOf K (asC (T := Int) (asC (T := (List (Str × (Tup Int)))) (asC (T := (List Int)) asN))) (fun u : Int × (List (Str × (Tup Int))) × (List Int) × Unit => m__law_balance_judged u.1 u.2.1 u.2.2.1)) := by
  obtain ⟨fd, F⟩ := G.d__law_balance_judged
  refine fok_data (ρ0 := fun u : Int × (List (Str × (Tup Int))) × (List Int) × Unit => [.val Int u.1, .val (List (Str × (Tup Int))) u.2.1, .val (List Int) u.2.2.1, .non, .non, .non]) F G.g__law_balance_judged sc__law_balance_judged (F.bindsN (ps := ["count", "lines", "times"]) fun _ _ _ _ _ _ us hl => match us, hl with | [_, _, _], _ => rfl) (by intro _; rfl) (by intro _; rfl) fun cdv A outer s H E C => ?_
  rintro ⟨count, lines, times, ⟨⟩⟩
  show SR _ _ none [.val Int count, .val (List (Str × (Tup Int))) lines, .val (List Int) times, .non, .non, .non] _ (retD Bool) (m__law_balance_judged count lines times)
  unfold m__law_balance_judged
  exact (r_cons (n_set 3 (n3 := fun handed1 => [.val Int count, .val (List (Str × (Tup Int))) lines, .val (List Int) times, .val (List (Str × (Tup Int))) handed1, .non, .non]) C.nd (FG.ej (f_listofp (EG.lg (e_var 1)) G.n_list))) fun handed1 => (r_cons (n_set 4 (n3 := fun amounts2 => [.val Int count, .val (List (Str × (Tup Int))) lines, .val (List Int) times, .val (List (Str × (Tup Int))) handed1, .val (List Int) amounts2, .non]) C.nd (FG.ej (f_listofp (EG.lg (e_var 2)) G.n_list))) fun amounts2 => (r_cons (n_set 5 (n3 := fun due3 => [.val Int count, .val (List (Str × (Tup Int))) lines, .val (List Int) times, .val (List (Str × (Tup Int))) handed1, .val (List Int) amounts2, .val Bool due3]) C.nd (e_call C (ok__law_balances G) (a_consp (e_var 0) (a_consp (e_var 1) (a_consp (e_var 2) a_nil))))) fun due3 => (r_ret (e_and (e_call C (ok__law_says G) (a_cons (e_call C (ok_balances G) (a_consp (e_var 0) (a_consp (e_var 3) (a_consp (e_var 4) a_nil)))) fun a4 => (a_consp (e_var 5) a_nil))) (e_and (CJ.v (e_eqd C (e_var 3) (e_var 1))) (e_and1 (CJ.v (e_eqdT C (e_var 4) (e_var 2))))))))))
def m__law_fit_judged (count : Int) (lines : List (Str × (Tup Int))) (numbers : List Int) : Res Bool :=
  (Res.bind (Res.ok lines) fun handed1 => (Res.bind (Res.ok numbers) fun told2 => (Res.bind (m__law_fits count lines numbers) fun due3 => (andM (Res.bind (m_fits count handed1 told2) fun a4 => m__law_says a4 due3) (andM (Res.bind (Res.ok handed1) fun x5 => Res.bind (Res.ok lines) fun y6 => eqD x5 y6) (Res.ok (Dat.dec told2 numbers)))))))
abbrev s__law_fit_judged : Stmt := topS 22
theorem sc__law_fit_judged : FnScope ["count", "lines", "numbers", "handed", "told", "due"] ["count", "lines", "numbers"] (defScope s__law_fit_judged) := ⟨rfl, rfl, rfl, by decide +kernel, rfl, by decide +kernel, by decide +kernel⟩
theorem ok__law_fit_judged {P : Program} {w : World} {K : PySem.W.Frag} {mg : Str → Option Value} {base : Heap} (G : Fx P K mg) : FOk P w K mg base "_law_fit_judged" 4 (spOf K (asC (T := Int) (asC (T := (List (Str × (Tup Int)))) (asC (T := (List Int)) asN))) (fun u : Int × (List (Str × (Tup Int))) × (List Int) × Unit => m__law_fit_judged u.1 u.2.1 u.2.2.1)) := by
  obtain ⟨fd, F⟩ := G.d__law_fit_judged
  refine fok_data (ρ0 := fun u : Int × (List (Str × (Tup Int))) × (List Int) × Unit => [.val Int u.1, .val (List (Str × (Tup Int))) u.2.1, .val (List Int) u.2.2.1, .non, .non, .non]) F G.g__law_fit_judged sc__law_fit_judged (F.bindsN (ps := ["count", "lines", "numbers"]) fun _ _ _ _ _ _ us hl => match us, hl with | [_, _, _], _ => rfl) (by intro _; rfl) (by intro _; rfl) fun cdv A outer s H E C => ?_
  rintro ⟨count, lines, numbers, ⟨⟩⟩
  show SR _ _ none [.val Int count, .val (List (Str × (Tup Int))) lines, .val (List Int) numbers, .non, .non, .non] _ (retD Bool) (m__law_fit_judged count lines numbers)
  unfold m__law_fit_judged
  exact (r_cons (n_set 3 (n3 := fun handed1 => [.val Int count, .val (List (Str × (Tup Int))) lines, .val (List Int) numbers, .val (List (Str × (Tup Int))) handed1, .non, .non]) C.nd (FG.ej (f_listofp (EG.lg (e_var 1)) G.n_list))) fun handed1 => (r_cons (n_set 4 (n3 := fun told2 => [.val Int count, .val (List (Str × (Tup Int))) lines, .val (List Int) numbers, .val (List (Str × (Tup Int))) handed1, .val (List Int) told2, .non]) C.nd (FG.ej (f_listofp (EG.lg (e_var 2)) G.n_list))) fun told2 => (r_cons (n_set 5 (n3 := fun due3 => [.val Int count, .val (List (Str × (Tup Int))) lines, .val (List Int) numbers, .val (List (Str × (Tup Int))) handed1, .val (List Int) told2, .val Bool due3]) C.nd (e_call C (ok__law_fits G) (a_consp (e_var 0) (a_consp (e_var 1) (a_consp (e_var 2) a_nil))))) fun due3 => (r_ret (e_and (e_call C (ok__law_says G) (a_cons (e_call C (ok_fits G) (a_consp (e_var 0) (a_consp (e_var 3) (a_consp (e_var 4) a_nil)))) fun a4 => (a_consp (e_var 5) a_nil))) (e_and (CJ.v (e_eqd C (e_var 3) (e_var 1))) (e_and1 (CJ.v (e_eqdT C (e_var 4) (e_var 2))))))))))
def m__law_system (script : Scr) (shape : List Int) : Res (T4 Int (List (Str × (Tup Int))) (List Int) Int) :=
  (Res.bind (Res.bind (Res.ok 1) fun x4 => Res.bind (Res.bind (idxM shape 0) fun x2 => Res.bind (Res.ok 8) fun y3 => modM x2 y3) fun y5 => Res.ok (x4 + y5)) fun count1 => (Res.bind (Res.bind (Res.ok 1) fun x9 => Res.bind (Res.bind (idxM shape 1) fun x7 => Res.bind (Res.ok 6) fun y8 => modM x7 y8) fun y10 => Res.ok (x9 + y10)) fun many6 => (Res.bind (Res.ok 6) fun limit11 => (Res.bind (Res.bind (Res.bind (Res.bind (idxM shape 2) fun x12 => Res.bind (Res.ok 16) fun y13 => modM x12 y13) fun x14 => Res.bind (Res.ok 5) fun y15 => Res.ok (decide (x14 = y15))) fun k26 => if k26 then (Res.bind (Res.ok 16) fun count17 => (Res.bind (Res.ok 57) fun many18 => (Res.ok (count17, many18, limit11)))) else (Res.bind (Res.bind (Res.bind (Res.bind (idxM shape 3) fun x19 => Res.bind (Res.ok 8) fun y20 => modM x19 y20) fun x21 => Res.bind (Res.ok 3) fun y22 => Res.ok (decide (x21 = y22))) fun k25 => if k25 then (Res.bind (Res.ok 1001) fun limit24 => (Res.ok limit24)) else (Res.ok limit11)) fun r23 => (Res.ok (count1, many6, r23)))) fun r16 => (Res.bind (Res.bind (Res.ok 1) fun x30 => Res.bind (Res.bind (idxM shape 4) fun x28 => Res.bind (Res.ok 4) fun y29 => modM x28 y29) fun y31 => Res.ok (x30 + y31)) fun unit27 => (Res.bind (Res.bind (idxM shape 5) fun x33 => Res.bind (Res.ok (r16.2.1 + 1)) fun y34 => modM x33 y34) fun more32 => (Res.bind (Res.bind (Res.bind (idxM shape 6) fun x36 => Res.bind (Res.ok 2) fun y37 => modM x36 y37) fun x38 => Res.bind (Res.ok 0) fun y39 => Res.ok (decide (x38 = y39))) fun single35 => (Res.bind (Res.bind (Res.bind (mulM r16.1 r16.2.1) fun a41 => m__law_many script 1 a41 19) fun z44 => lcX (fun _ => Res.ok true) (fun x43 => (Res.ok (x43 - 9))) z44) fun entries40 => (Res.bind (m__law_many script 2 (r16.2.1 + 1) 6) fun picks45 => (Res.bind (m__law_many script 3 r16.2.1 r16.2.2) fun amounts46 => (Res.bind (Res.ok ([] : List (Str × (Tup Int)))) fun lines47 => (Res.bind (Res.bind (guardR (inRange r16.1) (Res.ok (rng 0 r16.1))) fun z51 => lcX (fun _ => Res.ok true) (fun x50 => (Res.ok 0)) z51) fun sums48 => (Res.bind (Res.bind (guardR (inRange r16.2.1) (Res.ok (rng 0 r16.2.1))) fun z102 => forR (fun (r52 : (List Int) × (List (Str × (Tup Int))) × (List Int)) at'53 => (Res.bind (Res.bind (Res.ok [(Str.ofString ">"), (Str.ofString ">="), (Str.ofString "=")]) fun x57 => Res.bind (Res.bind (idxM picks45 at'53) fun x55 => Res.bind (Res.ok 3) fun y56 => modM x55 y56) fun y58 => idxM x57 y58) fun sign54 => (Res.bind (Res.bind (andM (Res.ok (decide (sign54 = (Str.ofString "=")))) (Res.bind (idxM picks45 at'53) fun x59 => Res.bind (Res.ok 2) fun y60 => Res.ok (decide (y60 < x59)))) fun k66 => if k66 then (Res.bind (Res.bind (Res.bind (idxM r52.1 at'53) fun x62 => Res.ok (-x62)) fun a64 => Res.bind (Res.ok at'53) fun b65 => setM r52.1 b65 a64) fun amounts63 => (Res.ok amounts63)) else (Res.ok r52.1)) fun r61 => (Res.bind (if ((decide (sign54 = (Str.ofString ">"))) && single35) then (Res.bind (Res.bind (Res.ok 0) fun a69 => Res.bind (Res.ok at'53) fun b70 => setM r61 b70 a69) fun amounts68 => (Res.ok amounts68)) else (Res.ok r61)) fun r67 => (Res.bind (if (decide (at'53 = more32)) then (Res.bind (Res.ok (Str.ofString ">")) fun sign72 => (Res.bind (Res.bind (Res.bind (Res.ok 1) fun x74 => Res.bind (Res.bind (idxM r67 at'53) fun x73 => Res.ok ((x73).natAbs : Int)) fun y75 => Res.ok (if y75 > x74 then y75 else x74)) fun a77 => Res.bind (Res.ok at'53) fun b78 => setM r67 b78 a77) fun amounts76 => (Res.ok (amounts76, sign72)))) else (Res.ok (r67, sign54))) fun r71 => (Res.bind (Res.bind (Res.ok entries40) fun x84 => Res.bind (Res.bind (mulM at'53 r16.1) fun x80 => Res.ok (some x80)) fun y85 => Res.bind (Res.bind (Res.bind (mulM at'53 r16.1) fun x81 => Res.bind (Res.ok r16.1) fun y82 => Res.ok (x81 + y82)) fun x83 => Res.ok (some x83)) fun z86 => Res.ok (cut x84 y85 z86)) fun row79 => (Res.bind (Res.bind (guardR (inRange r16.1) (Res.ok (rng 0 r16.1))) fun z94 => lcX (fun _ => Res.ok true) (fun k89 => (Res.bind (idxM r52.2.2 k89) fun x92 => Res.bind (Res.bind (idxM r71.1 at'53) fun x90 => Res.bind (idxM row79 k89) fun y91 => mulM x90 y91) fun y93 => Res.ok (x92 + y93))) z94) fun sums87 => (Res.bind (Res.bind (Res.bind (Res.bind (Res.bind (Res.ok row79) fun z97 => lcX (fun _ => Res.ok true) (fun x96 => (mulM unit27 x96)) z97) fun x98 => Res.ok (⟨x98⟩ : Tup Int)) fun a99 => Res.ok (r71.2, a99)) fun y101 => appM r52.2.1 y101) fun lines100 => (Res.ok (r71.1, lines100, sums87)))))))))) z102 (amounts46, lines47, sums48)) fun r52 => (Res.bind (Res.bind (Res.ok [(Str.ofString ">="), (Str.ofString "="), (Str.ofString ">=")]) fun x106 => Res.bind (Res.bind (idxM picks45 r16.2.1) fun x104 => Res.bind (Res.ok 3) fun y105 => modM x104 y105) fun y107 => idxM x106 y107) fun sign103 => (Res.bind (Res.bind (orM (Res.ok (decide (more32 = r16.2.1))) (andM (Res.bind (idxM picks45 r16.2.1) fun x108 => Res.bind (Res.ok 4) fun y109 => Res.ok (decide (y109 < x108))) (Res.ok (!single35)))) fun k112 => if k112 then (Res.bind (Res.ok (Str.ofString ">")) fun sign111 => (Res.ok sign111)) else (Res.ok sign103)) fun r110 => (Res.bind (Res.bind (Res.bind (Res.bind (Res.bind (Res.ok r52.2.2) fun z115 => lcX (fun _ => Res.ok true) (fun x114 => (Res.ok (-x114))) z115) fun x116 => Res.ok (⟨x116⟩ : Tup Int)) fun a117 => Res.ok (r110, a117)) fun y119 => appM r52.2.1 y119) fun lines118 => (Res.bind (Res.bind (Res.ok unit27) fun y121 => appM r52.1 y121) fun amounts120 => (Res.bind (Res.bind (idxM shape 7) fun x123 => Res.bind (Res.ok (r16.2.1 + 1)) fun y124 => modM x123 y124) fun moved122 => (Res.bind (modM (more32 - moved122) (r16.2.1 + 1)) fun place125 => (Res.bind (catM (cut lines118 (some moved122) none) (cut lines118 none (some moved122))) fun a126 => Res.bind (catM (cut amounts120 (some moved122) none) (cut amounts120 none (some moved122))) fun a127 => Res.ok (⟨r16.1, a126, a127, place125⟩)))))))))))))))))))))
abbrev s__law_system : Stmt := topS 23
theorem sc__law_system : FnScope ["script", "shape", "count", "many", "limit", "unit", "more", "single", "entries", "picks", "amounts", "lines", "sums", "at", "sign", "row", "moved", "place", "x", "k"] ["script", "shape"] (defScope s__law_system) := ⟨rfl, rfl, rfl, by decide +kernel, rfl, by decide +kernel, by decide +kernel⟩
theorem ok__law_system {P : Program} {w : World} {K : PySem.W.Frag} {mg : Str → Option Value} {base : Heap} (G : Fx P K mg) : FOk P w K mg base "_law_system" 3 (spOf K (asC (T := Scr) (asC (T := (List Int)) asN)) (fun u : Scr × (List Int) × Unit => m__law_system u.1 u.2.1)) := by
  obtain ⟨fd, F⟩ := G.d__law_system
  refine fok_data (ρ0 := fun u : Scr × (List Int) × Unit => [.val Scr u.1, .val (List Int) u.2.1, .non, .non, .non, .non, .non, .non, .non, .non, .non, .non, .non, .non, .non, .non, .non, .non, .non, .non]) F G.g__law_system sc__law_system (F.bindsN (ps := ["script", "shape"]) fun _ _ _ _ _ _ us hl => match us, hl with | [_, _], _ => rfl) (by intro _; rfl) (by intro _; rfl) fun cdv A outer s H E C => ?_
  rintro ⟨script, shape, ⟨⟩⟩
  show SR _ _ none [.val Scr script, .val (List Int) shape, .non, .non, .non, .non, .non, .non, .non, .non, .non, .non, .non, .non, .non, .non, .non, .non, .non, .non] _ (retD (T4 Int (List (Str × (Tup Int))) (List Int) Int)) (m__law_system script shape)
  unfold m__law_system
  exact (r_cons (n_set 2 (n3 := fun count1 => [.val Scr script, .val (List Int) shape, .val Int count1, .non, .non, .non, .non, .non, .non, .non, .non, .non, .non, .non, .non, .non, .non, .non, .non, .non]) C.nd (e_add e_int (e_mod (e_int1m (e_ixp (EG.lg (e_var 1)) e_int) G.n_int) e_int))) fun count1 => (r_cons (n_set 3 (n3 := fun many6 => [.val Scr script, .val (List Int) shape, .val Int count1, .val Int many6, .non, .non, .non, .non, .non, .non, .non, .non, .non, .non, .non, .non, .non, .non, .non, .non]) C.nd (e_add e_int (e_mod (e_int1m (e_ixp (EG.lg (e_var 1)) e_int) G.n_int) e_int))) fun many6 => (r_cons (n_set 4 (n3 := fun limit11 => [.val Scr script, .val (List Int) shape, .val Int count1, .val Int many6, .val Int limit11, .non, .non, .non, .non, .non, .non, .non, .non, .non, .non, .non, .non, .non, .non, .non]) C.nd e_int) fun limit11 => (r_cons (n_if (n := fun (r16 : Int × Int × Int) => [.val Scr script, .val (List Int) shape, .val Int r16.1, .val Int r16.2.1, .val Int r16.2.2, .non, .non, .non, .non, .non, .non, .non, .non, .non, .non, .non, .non, .non, .non, .non]) (CJ.t (e_eq (e_mod (e_int1m (e_ixp (EG.lg (e_var 1)) e_int) G.n_int) e_int) e_int)) (b_cons (n_set 2 (n3 := fun count17 => [.val Scr script, .val (List Int) shape, .val Int count17, .val Int many6, .val Int limit11, .non, .non, .non, .non, .non, .non, .non, .non, .non, .non, .non, .non, .non, .non, .non]) C.nd e_int) fun count17 => (b_cons (n_set 3 (n3 := fun many18 => [.val Scr script, .val (List Int) shape, .val Int count17, .val Int many18, .val Int limit11, .non, .non, .non, .non, .non, .non, .non, .non, .non, .non, .non, .non, .non, .non, .non]) C.nd e_int) fun many18 => (b_nil (.s (.s (.s (.s (.s (.n (.n (.n (.n (.n (.n (.n (.n (.n (.n (.n (.n (.n (.n (.n .nil))))))))))))))))))))))) (b_cons (n_if (n := fun (r23 : Int) => [.val Scr script, .val (List Int) shape, .val Int count1, .val Int many6, .val Int r23, .non, .non, .non, .non, .non, .non, .non, .non, .non, .non, .non, .non, .non, .non, .non]) (CJ.t (e_eq (e_mod (e_int1m (e_ixp (EG.lg (e_var 1)) e_int) G.n_int) e_int) e_int)) (b_cons (n_set 4 (n3 := fun limit24 => [.val Scr script, .val (List Int) shape, .val Int count1, .val Int many6, .val Int limit24, .non, .non, .non, .non, .non, .non, .non, .non, .non, .non, .non, .non, .non, .non, .non]) C.nd e_int) fun limit24 => (b_nil (.s (.s (.s (.s (.s (.n (.n (.n (.n (.n (.n (.n (.n (.n (.n (.n (.n (.n (.n (.n .nil)))))))))))))))))))))) (b_nil (.s (.s (.s (.s (.s (.n (.n (.n (.n (.n (.n (.n (.n (.n (.n (.n (.n (.n (.n (.n .nil)))))))))))))))))))))) fun r23 => (b_nil (.s (.s (.s (.s (.s (.n (.n (.n (.n (.n (.n (.n (.n (.n (.n (.n (.n (.n (.n (.n .nil))))))))))))))))))))))) fun r16 => (r_cons (n_set 5 (n3 := fun unit27 => [.val Scr script, .val (List Int) shape, .val Int r16.1, .val Int r16.2.1, .val Int r16.2.2, .val Int unit27, .non, .non, .non, .non, .non, .non, .non, .non, .non, .non, .non, .non, .non, .non]) C.nd (e_add e_int (e_mod (e_int1m (e_ixp (EG.lg (e_var 1)) e_int) G.n_int) e_int))) fun unit27 => (r_cons (n_set 6 (n3 := fun more32 => [.val Scr script, .val (List Int) shape, .val Int r16.1, .val Int r16.2.1, .val Int r16.2.2, .val Int unit27, .val Int more32, .non, .non, .non, .non, .non, .non, .non, .non, .non, .non, .non, .non, .non]) C.nd (e_mod (e_int1m (e_ixp (EG.lg (e_var 1)) e_int) G.n_int) (e_addp (e_var 3) e_int))) fun more32 => (r_cons (n_set 7 (n3 := fun single35 => [.val Scr script, .val (List Int) shape, .val Int r16.1, .val Int r16.2.1, .val Int r16.2.2, .val Int unit27, .val Int more32, .val Bool single35, .non, .non, .non, .non, .non, .non, .non, .non, .non, .non, .non, .non]) C.nd (CJ.v (e_eq (e_mod (e_int1m (e_ixp (EG.lg (e_var 1)) e_int) G.n_int) e_int) e_int))) fun single35 => (r_cons (n_lc 8 (n3 := fun entries40 => [.val Scr script, .val (List Int) shape, .val Int r16.1, .val Int r16.2.1, .val Int r16.2.2, .val Int unit27, .val Int more32, .val Bool single35, .val (List Int) entries40, .non, .non, .non, .non, .non, .non, .non, .non, .non, .non, .non]) (ow := [(Str.ofString "x", 18)]) (ρw := [.val Scr script, .val (List Int) shape, .val Int r16.1, .val Int r16.2.1, .val Int r16.2.2, .val Int unit27, .val Int more32, .val Bool single35, .non, .non, .non, .non, .non, .non, .non, .non, .non, .non, .non, .non]) C (i_list (FG.ej (f_call C (ok__law_many G) (a_consp (e_var 0) (a_consp e_int (a_cons (e_mulp (e_var 2) (e_var 3)) fun a41 => (a_consp e_int a_nil))))))) (fun s H Cc cl fp => ⟨(g_name 18 C.blk.nd), fun _ => lc_none, fun x43 => e_at [.val Scr script, .val (List Int) shape, .val Int r16.1, .val Int r16.2.1, .val Int r16.2.2, .val Int unit27, .val Int more32, .val Bool single35, .non, .non, .non, .non, .non, .non, .non, .non, .non, .non, .val Int x43, .non] (e_subp (e_var 18) e_int)⟩)) fun entries40 => (r_cons (n_set 9 (n3 := fun picks45 => [.val Scr script, .val (List Int) shape, .val Int r16.1, .val Int r16.2.1, .val Int r16.2.2, .val Int unit27, .val Int more32, .val Bool single35, .val (List Int) entries40, .val (List Int) picks45, .non, .non, .non, .non, .non, .non, .non, .non, .non, .non]) C.nd (FG.ej (f_call C (ok__law_many G) (a_consp (e_var 0) (a_consp e_int (a_consp (e_addp (e_var 3) e_int) (a_consp e_int a_nil))))))) fun picks45 => (r_cons (n_setF 10 (n3 := fun amounts46 => [.val Scr script, .val (List Int) shape, .val Int r16.1, .val Int r16.2.1, .val Int r16.2.2, .val Int unit27, .val Int more32, .val Bool single35, .val (List Int) entries40, .val (List Int) picks45, .own Int none amounts46, .non, .non, .non, .non, .non, .non, .non, .non, .non]) C.nd (f_call C (ok__law_many G) (a_consp (e_var 0) (a_consp e_int (a_consp (e_var 3) (a_consp (e_var 4) a_nil)))))) fun amounts46 => (r_cons (n_setF 11 (n3 := fun lines47 => [.val Scr script, .val (List Int) shape, .val Int r16.1, .val Int r16.2.1, .val Int r16.2.2, .val Int unit27, .val Int more32, .val Bool single35, .val (List Int) entries40, .val (List Int) picks45, .own Int none amounts46, .own (Str × (Tup Int)) none lines47, .non, .non, .non, .non, .non, .non, .non, .non]) C.nd (f_list (mk := (fun _ => ([] : List (Str × (Tup Int))))) a_nil)) fun lines47 => (r_cons (n_set 12 (n3 := fun sums48 => [.val Scr script, .val (List Int) shape, .val Int r16.1, .val Int r16.2.1, .val Int r16.2.2, .val Int unit27, .val Int more32, .val Bool single35, .val (List Int) entries40, .val (List Int) picks45, .own Int none amounts46, .own (Str × (Tup Int)) none lines47, .val (List Int) sums48, .non, .non, .non, .non, .non, .non, .non]) C.nd (FG.ej (f_lc (ow := [(Str.ofString "x", 18)]) (ρw := [.val Scr script, .val (List Int) shape, .val Int r16.1, .val Int r16.2.1, .val Int r16.2.2, .val Int unit27, .val Int more32, .val Bool single35, .val (List Int) entries40, .val (List Int) picks45, .own Int none amounts46, .own (Str × (Tup Int)) none lines47, .non, .non, .non, .non, .non, .non, .non, .non]) C (i_range1p (e_var 2) G.n_range) (fun s H Cc cl fp => ⟨(g_name 18 C.blk.nd), fun _ => lc_none, fun x50 => e_at [.val Scr script, .val (List Int) shape, .val Int r16.1, .val Int r16.2.1, .val Int r16.2.2, .val Int unit27, .val Int more32, .val Bool single35, .val (List Int) entries40, .val (List Int) picks45, .own Int none amounts46, .own (Str × (Tup Int)) none lines47, .non, .non, .non, .non, .non, .non, .val Int x50, .non] e_int⟩)))) fun sums48 => (r_cons (n_for (ρl := fun (r52 : (List Int) × (List (Str × (Tup Int))) × (List Int)) => [.val Scr script, .val (List Int) shape, .val Int r16.1, .val Int r16.2.1, .val Int r16.2.2, .val Int unit27, .val Int more32, .val Bool single35, .val (List Int) entries40, .val (List Int) picks45, .own Int none r52.1, .own (Str × (Tup Int)) none r52.2.1, .val (List Int) r52.2.2, .non, .non, .non, .non, .non, .non, .non]) (s0 := (amounts46, lines47, sums48)) C (i_range1p (e_var 3) G.n_range) (g_name 13 C.nd) (.s (.s (.s (.s (.s (.s (.s (.s (.s (.s (.s (.s (.s (.n (.n (.n (.n (.n (.n (.n .nil)))))))))))))))))))) (fun r52 at'53 => b_at [.val Scr script, .val (List Int) shape, .val Int r16.1, .val Int r16.2.1, .val Int r16.2.2, .val Int unit27, .val Int more32, .val Bool single35, .val (List Int) entries40, .val (List Int) picks45, .own Int none r52.1, .own (Str × (Tup Int)) none r52.2.1, .val (List Int) r52.2.2, .val Int at'53, .non, .non, .non, .non, .non, .non] (b_cons (n_set 14 (n3 := fun sign54 => [.val Scr script, .val (List Int) shape, .val Int r16.1, .val Int r16.2.1, .val Int r16.2.2, .val Int unit27, .val Int more32, .val Bool single35, .val (List Int) entries40, .val (List Int) picks45, .own Int none r52.1, .own (Str × (Tup Int)) none r52.2.1, .val (List Int) r52.2.2, .val Int at'53, .val Str sign54, .non, .non, .non, .non, .non]) C.nd (e_ix (FG.lg (f_list (mk := fun u => [u.1, u.2.1, u.2.2.1]) (a_consp e_str (a_consp e_str (a_consp e_str a_nil))))) (e_mod (e_int1m (e_ixp (EG.lg (e_var 9)) (e_var 13)) G.n_int) e_int))) fun sign54 => (b_cons (n_if (n := fun (r61 : (List Int)) => [.val Scr script, .val (List Int) shape, .val Int r16.1, .val Int r16.2.1, .val Int r16.2.2, .val Int unit27, .val Int more32, .val Bool single35, .val (List Int) entries40, .val (List Int) picks45, .own Int none r61, .own (Str × (Tup Int)) none r52.2.1, .val (List Int) r52.2.2, .val Int at'53, .val Str sign54, .non, .non, .non, .non, .non]) (TWJ.pt (tw_and (CJ.t (e_eqp (e_var 14) e_str)) (tw_and1 (CJ.t (e_gt (e_ixp (EG.lg (e_var 9)) (e_var 13)) e_int))))) (b_cons (n_setix 10 (n3 := fun amounts63 => [.val Scr script, .val (List Int) shape, .val Int r16.1, .val Int r16.2.1, .val Int r16.2.2, .val Int unit27, .val Int more32, .val Bool single35, .val (List Int) entries40, .val (List Int) picks45, .own Int none amounts63, .own (Str × (Tup Int)) none r52.2.1, .val (List Int) r52.2.2, .val Int at'53, .val Str sign54, .non, .non, .non, .non, .non]) (e_neg (e_ixp (l_own 10) (e_var 13))) (e_var 13)) fun amounts63 => (b_nil (.s (.s (.s (.s (.s (.s (.s (.s (.s (.s (.s (.s (.s (.s (.s (.n (.n (.n (.n (.n .nil)))))))))))))))))))))) (b_nil (.s (.s (.s (.s (.s (.s (.s (.s (.s (.s (.s (.s (.s (.s (.s (.n (.n (.n (.n (.n .nil)))))))))))))))))))))) fun r61 => (b_cons (n_ifp (n := fun (r67 : (List Int)) => [.val Scr script, .val (List Int) shape, .val Int r16.1, .val Int r16.2.1, .val Int r16.2.2, .val Int unit27, .val Int more32, .val Bool single35, .val (List Int) entries40, .val (List Int) picks45, .own Int none r67, .own (Str × (Tup Int)) none r52.2.1, .val (List Int) r52.2.2, .val Int at'53, .val Str sign54, .non, .non, .non, .non, .non]) (TWJ.pt (tw_andp (CJ.t (e_eqp (e_var 14) e_str)) (tw_and1 (t_val (e_var 7))))) (b_cons (n_setix 10 (n3 := fun amounts68 => [.val Scr script, .val (List Int) shape, .val Int r16.1, .val Int r16.2.1, .val Int r16.2.2, .val Int unit27, .val Int more32, .val Bool single35, .val (List Int) entries40, .val (List Int) picks45, .own Int none amounts68, .own (Str × (Tup Int)) none r52.2.1, .val (List Int) r52.2.2, .val Int at'53, .val Str sign54, .non, .non, .non, .non, .non]) e_int (e_var 13)) fun amounts68 => (b_nil (.s (.s (.s (.s (.s (.s (.s (.s (.s (.s (.s (.s (.s (.s (.s (.n (.n (.n (.n (.n .nil)))))))))))))))))))))) (b_nil (.s (.s (.s (.s (.s (.s (.s (.s (.s (.s (.s (.s (.s (.s (.s (.n (.n (.n (.n (.n .nil)))))))))))))))))))))) fun r67 => (b_cons (n_ifp (n := fun (r71 : (List Int) × Str) => [.val Scr script, .val (List Int) shape, .val Int r16.1, .val Int r16.2.1, .val Int r16.2.2, .val Int unit27, .val Int more32, .val Bool single35, .val (List Int) entries40, .val (List Int) picks45, .own Int none r71.1, .own (Str × (Tup Int)) none r52.2.1, .val (List Int) r52.2.2, .val Int at'53, .val Str r71.2, .non, .non, .non, .non, .non]) (CJ.t (e_eqp (e_var 13) (e_var 6))) (b_cons (n_set 14 (n3 := fun sign72 => [.val Scr script, .val (List Int) shape, .val Int r16.1, .val Int r16.2.1, .val Int r16.2.2, .val Int unit27, .val Int more32, .val Bool single35, .val (List Int) entries40, .val (List Int) picks45, .own Int none r67, .own (Str × (Tup Int)) none r52.2.1, .val (List Int) r52.2.2, .val Int at'53, .val Str sign72, .non, .non, .non, .non, .non]) C.nd e_str) fun sign72 => (b_cons (n_setix 10 (n3 := fun amounts76 => [.val Scr script, .val (List Int) shape, .val Int r16.1, .val Int r16.2.1, .val Int r16.2.2, .val Int unit27, .val Int more32, .val Bool single35, .val (List Int) entries40, .val (List Int) picks45, .own Int none amounts76, .own (Str × (Tup Int)) none r52.2.1, .val (List Int) r52.2.2, .val Int at'53, .val Str sign72, .non, .non, .non, .non, .non]) (e_max2 C.calm e_int (e_abs (e_ixp (l_own 10) (e_var 13)) G.n_abs) G.n_max) (e_var 13)) fun amounts76 => (b_nil (.s (.s (.s (.s (.s (.s (.s (.s (.s (.s (.s (.s (.s (.s (.s (.n (.n (.n (.n (.n .nil))))))))))))))))))))))) (b_nil (.s (.s (.s (.s (.s (.s (.s (.s (.s (.s (.s (.s (.s (.s (.s (.n (.n (.n (.n (.n .nil)))))))))))))))))))))) fun r71 => (b_cons (n_set 15 (n3 := fun row79 => [.val Scr script, .val (List Int) shape, .val Int r16.1, .val Int r16.2.1, .val Int r16.2.2, .val Int unit27, .val Int more32, .val Bool single35, .val (List Int) entries40, .val (List Int) picks45, .own Int none r71.1, .own (Str × (Tup Int)) none r52.2.1, .val (List Int) r52.2.2, .val Int at'53, .val Str r71.2, .val (List Int) row79, .non, .non, .non, .non]) C.nd (FG.ej (f_slice (EG.lg (e_var 8)) (o_some (e_mulp (e_var 13) (e_var 2))) (o_some (e_add (e_mulp (e_var 13) (e_var 2)) (e_var 2)))))) fun row79 => (b_cons (n_set 12 (n3 := fun sums87 => [.val Scr script, .val (List Int) shape, .val Int r16.1, .val Int r16.2.1, .val Int r16.2.2, .val Int unit27, .val Int more32, .val Bool single35, .val (List Int) entries40, .val (List Int) picks45, .own Int none r71.1, .own (Str × (Tup Int)) none r52.2.1, .val (List Int) sums87, .val Int at'53, .val Str r71.2, .val (List Int) row79, .non, .non, .non, .non]) C.nd (FG.ej (f_lc (ow := [(Str.ofString "k", 19)]) (ρw := [.val Scr script, .val (List Int) shape, .val Int r16.1, .val Int r16.2.1, .val Int r16.2.2, .val Int unit27, .val Int more32, .val Bool single35, .val (List Int) entries40, .val (List Int) picks45, .own Int none r71.1, .own (Str × (Tup Int)) none r52.2.1, .val (List Int) r52.2.2, .val Int at'53, .val Str r71.2, .val (List Int) row79, .non, .non, .non, .non]) C (i_range1p (e_var 2) G.n_range) (fun s H Cc cl fp => ⟨(g_name 19 C.blk.nd), fun _ => lc_none, fun k89 => e_at [.val Scr script, .val (List Int) shape, .val Int r16.1, .val Int r16.2.1, .val Int r16.2.2, .val Int unit27, .val Int more32, .val Bool single35, .val (List Int) entries40, .val (List Int) picks45, .own Int none r71.1, .own (Str × (Tup Int)) none r52.2.1, .val (List Int) r52.2.2, .val Int at'53, .val Str r71.2, .val (List Int) row79, .non, .non, .non, .val Int k89] (e_add (e_ixp (EG.lg (e_var 12)) (e_var 19)) (e_mul (e_ixp (l_own 10) (e_var 13)) (e_ixp (EG.lg (e_var 15)) (e_var 19))))⟩)))) fun sums87 => (b_cons (n_app 11 (n3 := fun lines100 => [.val Scr script, .val (List Int) shape, .val Int r16.1, .val Int r16.2.1, .val Int r16.2.2, .val Int unit27, .val Int more32, .val Bool single35, .val (List Int) entries40, .val (List Int) picks45, .own Int none r71.1, .own (Str × (Tup Int)) none lines100, .val (List Int) sums87, .val Int at'53, .val Str r71.2, .val (List Int) row79, .non, .non, .non, .non]) (e_tup (mk := (fun u => (u.1, u.2.1))) (a_consp (e_var 14) (a_cons (e_tupof (FG.lg (f_lc (ow := [(Str.ofString "x", 18)]) (ρw := [.val Scr script, .val (List Int) shape, .val Int r16.1, .val Int r16.2.1, .val Int r16.2.2, .val Int unit27, .val Int more32, .val Bool single35, .val (List Int) entries40, .val (List Int) picks45, .own Int none r71.1, .own (Str × (Tup Int)) none r52.2.1, .val (List Int) sums87, .val Int at'53, .val Str r71.2, .val (List Int) row79, .non, .non, .non, .non]) C (i_list (e_var 15)) (fun s H Cc cl fp => ⟨(g_name 18 C.blk.nd), fun _ => lc_none, fun x96 => e_at [.val Scr script, .val (List Int) shape, .val Int r16.1, .val Int r16.2.1, .val Int r16.2.2, .val Int unit27, .val Int more32, .val Bool single35, .val (List Int) entries40, .val (List Int) picks45, .own Int none r71.1, .own (Str × (Tup Int)) none r52.2.1, .val (List Int) sums87, .val Int at'53, .val Str r71.2, .val (List Int) row79, .non, .non, .val Int x96, .non] (e_mulp (e_var 5) (e_var 18))⟩))) G.n_tuple) fun a99 => a_nil)))) fun lines100 => (b_nil (.s (.s (.s (.s (.s (.s (.s (.s (.s (.s (.s (.s (.s (.n (.n (.n (.n (.n (.n (.n .nil)))))))))))))))))))))))))))))) fun r52 => (r_cons (n_set 14 (n3 := fun sign103 => [.val Scr script, .val (List Int) shape, .val Int r16.1, .val Int r16.2.1, .val Int r16.2.2, .val Int unit27, .val Int more32, .val Bool single35, .val (List Int) entries40, .val (List Int) picks45, .own Int none r52.1, .own (Str × (Tup Int)) none r52.2.1, .val (List Int) r52.2.2, .non, .val Str sign103, .non, .non, .non, .non, .non]) C.nd (e_ix (FG.lg (f_list (mk := fun u => [u.1, u.2.1, u.2.2.1]) (a_consp e_str (a_consp e_str (a_consp e_str a_nil))))) (e_mod (e_int1m (e_ixp (EG.lg (e_var 9)) (e_var 3)) G.n_int) e_int))) fun sign103 => (r_cons (n_if (n := fun (r110 : Str) => [.val Scr script, .val (List Int) shape, .val Int r16.1, .val Int r16.2.1, .val Int r16.2.2, .val Int unit27, .val Int more32, .val Bool single35, .val (List Int) entries40, .val (List Int) picks45, .own Int none r52.1, .own (Str × (Tup Int)) none r52.2.1, .val (List Int) r52.2.2, .non, .val Str r110, .non, .non, .non, .non, .non]) (TWJ.pt (tw_or (CJ.t (e_eqp (e_var 6) (e_var 3))) (tw_or1 (TWJ.pt (tw_and (CJ.t (e_gt (e_ixp (EG.lg (e_var 9)) (e_var 3)) e_int)) (tw_and1 (t_notp (t_val (e_var 7))))))))) (b_cons (n_set 14 (n3 := fun sign111 => [.val Scr script, .val (List Int) shape, .val Int r16.1, .val Int r16.2.1, .val Int r16.2.2, .val Int unit27, .val Int more32, .val Bool single35, .val (List Int) entries40, .val (List Int) picks45, .own Int none r52.1, .own (Str × (Tup Int)) none r52.2.1, .val (List Int) r52.2.2, .non, .val Str sign111, .non, .non, .non, .non, .non]) C.nd e_str) fun sign111 => (b_nil (.s (.s (.s (.s (.s (.s (.s (.s (.s (.s (.s (.s (.s (.n (.s (.n (.n (.n (.n (.n .nil)))))))))))))))))))))) (b_nil (.s (.s (.s (.s (.s (.s (.s (.s (.s (.s (.s (.s (.s (.n (.s (.n (.n (.n (.n (.n .nil)))))))))))))))))))))) fun r110 => (r_cons (n_app 11 (n3 := fun lines118 => [.val Scr script, .val (List Int) shape, .val Int r16.1, .val Int r16.2.1, .val Int r16.2.2, .val Int unit27, .val Int more32, .val Bool single35, .val (List Int) entries40, .val (List Int) picks45, .own Int none r52.1, .own (Str × (Tup Int)) none lines118, .val (List Int) r52.2.2, .non, .val Str r110, .non, .non, .non, .non, .non]) (e_tup (mk := (fun u => (u.1, u.2.1))) (a_consp (e_var 14) (a_cons (e_tupof (FG.lg (f_lc (ow := [(Str.ofString "x", 18)]) (ρw := [.val Scr script, .val (List Int) shape, .val Int r16.1, .val Int r16.2.1, .val Int r16.2.2, .val Int unit27, .val Int more32, .val Bool single35, .val (List Int) entries40, .val (List Int) picks45, .own Int none r52.1, .own (Str × (Tup Int)) none r52.2.1, .val (List Int) r52.2.2, .non, .val Str r110, .non, .non, .non, .non, .non]) C (i_list (e_var 12)) (fun s H Cc cl fp => ⟨(g_name 18 C.blk.nd), fun _ => lc_none, fun x114 => e_at [.val Scr script, .val (List Int) shape, .val Int r16.1, .val Int r16.2.1, .val Int r16.2.2, .val Int unit27, .val Int more32, .val Bool single35, .val (List Int) entries40, .val (List Int) picks45, .own Int none r52.1, .own (Str × (Tup Int)) none r52.2.1, .val (List Int) r52.2.2, .non, .val Str r110, .non, .non, .non, .val Int x114, .non] (e_negp (e_var 18))⟩))) G.n_tuple) fun a117 => a_nil)))) fun lines118 => (r_cons (n_app 10 (n3 := fun amounts120 => [.val Scr script, .val (List Int) shape, .val Int r16.1, .val Int r16.2.1, .val Int r16.2.2, .val Int unit27, .val Int more32, .val Bool single35, .val (List Int) entries40, .val (List Int) picks45, .own Int none amounts120, .own (Str × (Tup Int)) none lines118, .val (List Int) r52.2.2, .non, .val Str r110, .non, .non, .non, .non, .non]) (e_var 5)) fun amounts120 => (r_cons (n_set 16 (n3 := fun moved122 => [.val Scr script, .val (List Int) shape, .val Int r16.1, .val Int r16.2.1, .val Int r16.2.2, .val Int unit27, .val Int more32, .val Bool single35, .val (List Int) entries40, .val (List Int) picks45, .own Int none amounts120, .own (Str × (Tup Int)) none lines118, .val (List Int) r52.2.2, .non, .val Str r110, .non, .val Int moved122, .non, .non, .non]) C.nd (e_mod (e_int1m (e_ixp (EG.lg (e_var 1)) e_int) G.n_int) (e_addp (e_var 3) e_int))) fun moved122 => (r_cons (n_set 17 (n3 := fun place125 => [.val Scr script, .val (List Int) shape, .val Int r16.1, .val Int r16.2.1, .val Int r16.2.2, .val Int unit27, .val Int more32, .val Bool single35, .val (List Int) entries40, .val (List Int) picks45, .own Int none amounts120, .own (Str × (Tup Int)) none lines118, .val (List Int) r52.2.2, .non, .val Str r110, .non, .val Int moved122, .val Int place125, .non, .non]) C.nd (e_modp (e_int1p (e_subp (e_var 6) (e_var 16)) G.n_int) (e_addp (e_var 3) e_int))) fun place125 => (r_ret (e_tup (mk := (fun u => ⟨u.1, u.2.1, u.2.2.1, u.2.2.2.1⟩)) (a_consp (e_var 2) (a_cons (FG.ej (f_catp (FG.lg (f_slicep (l_own 11) (o_somep (e_var 16)) o_none)) (FG.lg (f_slicep (l_own 11) o_none (o_somep (e_var 16)))))) fun a126 => (a_cons (FG.ej (f_catp (FG.lg (f_slicep (l_own 10) (o_somep (e_var 16)) o_none)) (FG.lg (f_slicep (l_own 10) o_none (o_somep (e_var 16)))))) fun a127 => (a_consp (e_var 17) a_nil)))))))))))))))))))))))))
def m__law_put (row : List Int) (at' : Int) (one : Int) : Res (List Int) :=
  (Res.bind (catM (cut row none (some at')) [one]) fun x1 => Res.bind (Res.ok (cut row (some at') none)) fun y2 => catM x1 y2)
abbrev s__law_put : Stmt := topS 24
theorem sc__law_put : FnScope ["row", "at", "one"] ["row", "at", "one"] (defScope s__law_put) := ⟨rfl, rfl, rfl, by decide +kernel, rfl, by decide +kernel, by decide +kernel⟩
theorem ok__law_put {P : Program} {w : World} {K : PySem.W.Frag} {mg : Str → Option Value} {base : Heap} (G : Fx P K mg) : FOk P w K mg base "_law_put" 1 (spFr K (asC (T := (List Int)) (asC (T := Int) (asC (T := Int) asN))) (fun u : (List Int) × Int × Int × Unit => m__law_put u.1 u.2.1 u.2.2.1)) := by
  obtain ⟨fd, F⟩ := G.d__law_put
  refine fok_fr (ρ0 := fun u : (List Int) × Int × Int × Unit => [.val (List Int) u.1, .val Int u.2.1, .val Int u.2.2.1]) F G.g__law_put sc__law_put (F.bindsN (ps := ["row", "at", "one"]) fun _ _ _ _ _ _ us hl => match us, hl with | [_, _, _], _ => rfl) (by intro _; rfl) (by intro _; rfl) fun cdv A outer s H E C => ?_
  rintro ⟨row, at', one, ⟨⟩⟩
  show SR _ _ none [.val (List Int) row, .val Int at', .val Int one] _ (retF Int) (m__law_put row at' one)
  unfold m__law_put
  exact (r_retF (f_catm (FG.lg (f_catp (FG.lg (f_slicep (EG.lg (e_var 0)) o_none (o_somep (e_var 1)))) (FG.lg (f_list (mk := fun u => [u.1]) (a_consp (e_var 2) a_nil))))) (FG.lg (f_slicep (EG.lg (e_var 0)) (o_somep (e_var 1)) o_none))))
def m__law_put_o2 (row : List (Str × (Tup Int))) (at' : Int) (one : Str × (Tup Int)) : Res (List (Str × (Tup Int))) :=
  (Res.bind (catM (cut row none (some at')) [one]) fun x1 => Res.bind (Res.ok (cut row (some at') none)) fun y2 => catM x1 y2)
theorem ok__law_put_o2 {P : Program} {w : World} {K : PySem.W.Frag} {mg : Str → Option Value} {base : Heap} (G : Fx P K mg) : FOk P w K mg base "_law_put" 1 (spFr K (asC (T := (List (Str × (Tup Int)))) (asC (T := Int) (asC (T := (Str × (Tup Int))) asN))) (fun u : (List (Str × (Tup Int))) × Int × (Str × (Tup Int)) × Unit => m__law_put_o2 u.1 u.2.1 u.2.2.1)) := by
  obtain ⟨fd, F⟩ := G.d__law_put
  refine fok_fr (ρ0 := fun u : (List (Str × (Tup Int))) × Int × (Str × (Tup Int)) × Unit => [.val (List (Str × (Tup Int))) u.1, .val Int u.2.1, .val (Str × (Tup Int)) u.2.2.1]) F G.g__law_put sc__law_put (F.bindsN (ps := ["row", "at", "one"]) fun _ _ _ _ _ _ us hl => match us, hl with | [_, _, _], _ => rfl) (by intro _; rfl) (by intro _; rfl) fun cdv A outer s H E C => ?_
  rintro ⟨row, at', one, ⟨⟩⟩
  show SR _ _ none [.val (List (Str × (Tup Int))) row, .val Int at', .val (Str × (Tup Int)) one] _ (retF (Str × (Tup Int))) (m__law_put_o2 row at' one)
  unfold m__law_put_o2
  exact (r_retF (f_catm (FG.lg (f_catp (FG.lg (f_slicep (EG.lg (e_var 0)) o_none (o_somep (e_var 1)))) (FG.lg (f_list (mk := fun u => [u.1]) (a_consp (e_var 2) a_nil))))) (FG.lg (f_slicep (EG.lg (e_var 0)) (o_somep (e_var 1)) o_none))))
def m__law_times_counted (count : Int) (lines : List (Str × (Tup Int))) (times : List Int) (at' : Int) : Res Bool :=
  (Res.bind (Res.bind (Res.bind (guardR (inRange count) (Res.ok (rng 0 count))) fun z4 => lcX (fun _ => Res.ok true) (fun x3 => (Res.ok 0)) z4) fun x5 => Res.ok (⟨x5⟩ : Tup Int)) fun nothing1 => (Res.bind (catM lines [((Str.ofString ">="), nothing1)]) fun more6 => (Res.bind (orM (Res.bind (Res.bind (catM times [0]) fun a7 => m__law_balance_judged count more6 a7) fun x8 => Res.ok (!x8)) (Res.bind (m__law_balance_judged count more6 times) fun x9 => Res.ok (!x9))) fun k24 => if k24 then (Res.ok false) else (Res.bind (orM (Res.bind (Res.bind (catM times [0]) fun a10 => m__law_balance_judged count lines a10) fun x11 => Res.ok (!x11)) (Res.bind (m__law_balance_judged count ([] : List (Str × (Tup Int))) ([] : List Int)) fun x12 => Res.ok (!x12))) fun k23 => if k23 then (Res.ok false) else (thenR (Res.bind (Res.ok [(Str.ofString ">"), (Str.ofString ">="), (Str.ofString "=")]) fun z22 => forC (fun (r13 : Unit) sign14 => (Res.bind (m__law_put_o2 lines at' (sign14, nothing1)) fun wide15 => (thenC (Res.bind (Res.ok [(-1), 3]) fun z21 => forC (fun (r16 : Unit) one17 => (Res.bind (Res.bind (Res.bind (m__law_put times at' one17) fun a18 => m__law_balance_judged count wide15 a18) fun x19 => Res.ok (!x19)) fun k20 => if k20 then liftC (Res.ok (Ctl.rt false)) else (Res.ok (Ctl.nx ())))) z21 ()) fun r16 => (Res.ok (Ctl.nx ()))))) z22 ()) fun r13 => (Res.ok true))))))
abbrev s__law_times_counted : Stmt := topS 25
theorem sc__law_times_counted : FnScope ["count", "lines", "times", "at", "nothing", "more", "sign", "wide", "one", "x"] ["count", "lines", "times", "at"] (defScope s__law_times_counted) := ⟨rfl, rfl, rfl, by decide +kernel, rfl, by decide +kernel, by decide +kernel⟩
theorem ok__law_times_counted {P : Program} {w : World} {K : PySem.W.Frag} {mg : Str → Option Value} {base : Heap} (G : Fx P K mg) : FOk P w K mg base "_law_times_counted" 3 (spOf K (asC (T := Int) (asC (T := (List (Str × (Tup Int)))) (asC (T := (List Int)) (asC (T := Int) asN)))) (fun u : Int × (List (Str × (Tup Int))) × (List Int) × Int × Unit => m__law_times_counted u.1 u.2.1 u.2.2.1 u.2.2.2.1)) := by
  obtain ⟨fd, F⟩ := G.d__law_times_counted
  refine fok_data (ρ0 := fun u : Int × (List (Str × (Tup Int))) × (List Int) × Int × Unit => [.val Int u.1, .val (List (Str × (Tup Int))) u.2.1, .val (List Int) u.2.2.1, .val Int u.2.2.2.1, .non, .non, .non, .non, .non, .non]) F G.g__law_times_counted sc__law_times_counted (F.bindsN (ps := ["count", "lines", "times", "at"]) fun _ _ _ _ _ _ us hl => match us, hl with | [_, _, _, _], _ => rfl) (by intro _; rfl) (by intro _; rfl) fun cdv A outer s H E C => ?_
  rintro ⟨count, lines, times, at', ⟨⟩⟩
  show SR _ _ none [.val Int count, .val (List (Str × (Tup Int))) lines, .val (List Int) times, .val Int at', .non, .non, .non, .non, .non, .non] _ (retD Bool) (m__law_times_counted count lines times at')
  unfold m__law_times_counted
  exact (r_cons (n_set 4 (n3 := fun nothing1 => [.val Int count, .val (List (Str × (Tup Int))) lines, .val (List Int) times, .val Int at', .val (Tup Int) nothing1, .non, .non, .non, .non, .non]) C.nd (e_tupof (FG.lg (f_lc (ow := [(Str.ofString "x", 9)]) (ρw := [.val Int count, .val (List (Str × (Tup Int))) lines, .val (List Int) times, .val Int at', .non, .non, .non, .non, .non, .non]) C (i_range1p (e_var 0) G.n_range) (fun s H Cc cl fp => ⟨(g_name 9 C.blk.nd), fun _ => lc_none, fun x3 => e_at [.val Int count, .val (List (Str × (Tup Int))) lines, .val (List Int) times, .val Int at', .non, .non, .non, .non, .non, .val Int x3] e_int⟩))) G.n_tuple)) fun nothing1 => (r_cons (n_set 5 (n3 := fun more6 => [.val Int count, .val (List (Str × (Tup Int))) lines, .val (List Int) times, .val Int at', .val (Tup Int) nothing1, .val (List (Str × (Tup Int))) more6, .non, .non, .non, .non]) C.nd (FG.ej (f_catp (EG.lg (e_var 1)) (FG.lg (f_list (mk := fun u => [u.1]) (a_consp (e_tup (mk := (fun u => (u.1, u.2.1))) (a_consp e_str (a_consp (e_var 4) a_nil))) a_nil)))))) fun more6 => (r_if (TWJ.pt (tw_or (t_not (t_val (e_call C (ok__law_balance_judged G) (a_consp (e_var 0) (a_consp (e_var 5) (a_cons (FG.ej (f_catp (EG.lg (e_var 2)) (FG.lg (f_list (mk := fun u => [u.1]) (a_consp e_int a_nil))))) fun a7 => a_nil)))))) (tw_or1 (t_not (t_val (e_call C (ok__law_balance_judged G) (a_consp (e_var 0) (a_consp (e_var 5) (a_consp (e_var 2) a_nil))))))))) (r_ret e_bool) (r_if (TWJ.pt (tw_or (t_not (t_val (e_call C (ok__law_balance_judged G) (a_consp (e_var 0) (a_consp (e_var 1) (a_cons (FG.ej (f_catp (EG.lg (e_var 2)) (FG.lg (f_list (mk := fun u => [u.1]) (a_consp e_int a_nil))))) fun a10 => a_nil)))))) (tw_or1 (t_not (t_val (e_call C (ok__law_balance_judged G) (a_consp (e_var 0) (a_consp (FG.ej (f_list (mk := (fun _ => ([] : List (Str × (Tup Int))))) a_nil)) (a_consp (FG.ej (f_list (mk := (fun _ => ([] : List Int))) a_nil)) a_nil))))))))) (r_ret e_bool) (rc_cons (b := eb) (c_for (ρl := fun (r13 : Unit) => [.val Int count, .val (List (Str × (Tup Int))) lines, .val (List Int) times, .val Int at', .val (Tup Int) nothing1, .val (List (Str × (Tup Int))) more6, .non, .non, .non, .non]) (s0 := ()) C (i_list (FG.ej (f_list (mk := fun u => [u.1, u.2.1, u.2.2.1]) (a_consp e_str (a_consp e_str (a_consp e_str a_nil)))))) (g_name 6 C.nd) (.s (.s (.s (.s (.s (.s (.n (.n (.n (.n .nil)))))))))) (fun r13 sign14 => c_at [.val Int count, .val (List (Str × (Tup Int))) lines, .val (List Int) times, .val Int at', .val (Tup Int) nothing1, .val (List (Str × (Tup Int))) more6, .val Str sign14, .non, .non, .non] (c_cons (n_set 7 (n3 := fun wide15 => [.val Int count, .val (List (Str × (Tup Int))) lines, .val (List Int) times, .val Int at', .val (Tup Int) nothing1, .val (List (Str × (Tup Int))) more6, .val Str sign14, .val (List (Str × (Tup Int))) wide15, .non, .non]) C.nd (FG.ej (f_call C (ok__law_put_o2 G) (a_consp (e_var 1) (a_consp (e_var 3) (a_consp (e_tup (mk := (fun u => (u.1, u.2.1))) (a_consp (e_var 6) (a_consp (e_var 4) a_nil))) a_nil)))))) fun wide15 => (cc_cons (c_for (ρl := fun (r16 : Unit) => [.val Int count, .val (List (Str × (Tup Int))) lines, .val (List Int) times, .val Int at', .val (Tup Int) nothing1, .val (List (Str × (Tup Int))) more6, .val Str sign14, .val (List (Str × (Tup Int))) wide15, .non, .non]) (s0 := ()) C (i_list (FG.ej (f_list (mk := fun u => [u.1, u.2.1]) (a_consp (e_negp e_int) (a_consp e_int a_nil))))) (g_name 8 C.nd) (.s (.s (.s (.s (.s (.s (.s (.s (.n (.n .nil)))))))))) (fun r16 one17 => c_at [.val Int count, .val (List (Str × (Tup Int))) lines, .val (List Int) times, .val Int at', .val (Tup Int) nothing1, .val (List (Str × (Tup Int))) more6, .val Str sign14, .val (List (Str × (Tup Int))) wide15, .val Int one17, .non] (c_if1 (t_not (t_val (e_call C (ok__law_balance_judged G) (a_consp (e_var 0) (a_consp (e_var 7) (a_cons (FG.ej (f_call C (ok__law_put G) (a_consp (e_var 2) (a_consp (e_var 3) (a_consp (e_var 8) a_nil))))) fun a18 => a_nil)))))) (SR.cp (r_ret e_bool)) (c_nil (.s (.s (.s (.s (.s (.s (.s (.s (.n (.n .nil)))))))))))))) fun r16 => (c_nil (.s (.s (.s (.s (.s (.s (.n (.n (.n (.n .nil))))))))))))))) fun r13 => (r_ret e_bool))))))
def m__law_twice (count : Int) (lines : List (Str × (Tup Int))) (times : List Int) (at' : Int) (other : Int) : Res Bool :=
  (thenR (Res.bind (Res.ok [(Str.ofString ">"), (Str.ofString ">="), (Str.ofString "=")]) fun z16 => forC (fun (r1 : Unit) sign2 => (Res.bind (Res.bind (Res.bind (Res.bind (idxM lines other) fun x4 => Res.ok x4.2) fun a5 => Res.ok (sign2, a5)) fun a6 => m__law_put_o2 lines at' a6) fun wide3 => (Res.bind (Res.ok times) fun amounts7 => (Res.bind (Res.bind (Res.bind (idxM amounts7 other) fun x8 => Res.bind (Res.ok 2) fun y9 => Res.ok (x8 + y9)) fun a11 => Res.bind (Res.ok other) fun b12 => setM amounts7 b12 a11) fun amounts10 => (Res.bind (Res.bind (Res.bind (m__law_put amounts10 at' (-2)) fun a13 => m__law_balance_judged count wide3 a13) fun x14 => Res.ok (!x14)) fun k15 => if k15 then liftC (Res.ok (Ctl.rt false)) else (Res.ok (Ctl.nx ()))))))) z16 ()) fun r1 => (Res.ok true))
abbrev s__law_twice : Stmt := topS 26
theorem sc__law_twice : FnScope ["count", "lines", "times", "at", "other", "sign", "wide", "amounts"] ["count", "lines", "times", "at", "other"] (defScope s__law_twice) := ⟨rfl, rfl, rfl, by decide +kernel, rfl, by decide +kernel, by decide +kernel⟩
theorem ok__law_twice {P : Program} {w : World} {K : PySem.W.Frag} {mg : Str → Option Value} {base : Heap} (G : Fx P K mg) : FOk P w K mg base "_law_twice" 3 (spOf K (asC (T := Int) (asC (T := (List (Str × (Tup Int)))) (asC (T := (List Int)) (asC (T := Int) (asC (T := Int) asN))))) (fun u : Int × (List (Str × (Tup Int))) × (List Int) × Int × Int × Unit => m__law_twice u.1 u.2.1 u.2.2.1 u.2.2.2.1 u.2.2.2.2.1)) := by
  obtain ⟨fd, F⟩ := G.d__law_twice
  refine fok_data (ρ0 := fun u : Int × (List (Str × (Tup Int))) × (List Int) × Int × Int × Unit => [.val Int u.1, .val (List (Str × (Tup Int))) u.2.1, .val (List Int) u.2.2.1, .val Int u.2.2.2.1, .val Int u.2.2.2.2.1, .non, .non, .non]) F G.g__law_twice sc__law_twice (F.bindsN (ps := ["count", "lines", "times", "at", "other"]) fun _ _ _ _ _ _ us hl => match us, hl with | [_, _, _, _, _], _ => rfl) (by intro _; rfl) (by intro _; rfl) fun cdv A outer s H E C => ?_
  rintro ⟨count, lines, times, at', other, ⟨⟩⟩
  show SR _ _ none [.val Int count, .val (List (Str × (Tup Int))) lines, .val (List Int) times, .val Int at', .val Int other, .non, .non, .non] _ (retD Bool) (m__law_twice count lines times at' other)
  unfold m__law_twice
  exact (rc_cons (b := eb) (c_for (ρl := fun (r1 : Unit) => [.val Int count, .val (List (Str × (Tup Int))) lines, .val (List Int) times, .val Int at', .val Int other, .non, .non, .non]) (s0 := ()) C (i_list (FG.ej (f_list (mk := fun u => [u.1, u.2.1, u.2.2.1]) (a_consp e_str (a_consp e_str (a_consp e_str a_nil)))))) (g_name 5 C.nd) (.s (.s (.s (.s (.s (.n (.n (.n .nil)))))))) (fun r1 sign2 => c_at [.val Int count, .val (List (Str × (Tup Int))) lines, .val (List Int) times, .val Int at', .val Int other, .val Str sign2, .non, .non] (c_cons (n_set 6 (n3 := fun wide3 => [.val Int count, .val (List (Str × (Tup Int))) lines, .val (List Int) times, .val Int at', .val Int other, .val Str sign2, .val (List (Str × (Tup Int))) wide3, .non]) C.nd (FG.ej (f_call C (ok__law_put_o2 G) (a_consp (e_var 1) (a_consp (e_var 3) (a_cons (e_tup (mk := (fun u => (u.1, u.2.1))) (a_consp (e_var 5) (a_cons (e_pl (j := 1) (f := fun (x : (Str × (Tup Int))) => x.2) (e_ixp (EG.lg (e_var 1)) (e_var 4))) fun a5 => a_nil))) fun a6 => a_nil)))))) fun wide3 => (c_cons (n_setF 7 (n3 := fun amounts7 => [.val Int count, .val (List (Str × (Tup Int))) lines, .val (List Int) times, .val Int at', .val Int other, .val Str sign2, .val (List (Str × (Tup Int))) wide3, .own Int none amounts7]) C.nd (f_listofp (EG.lg (e_var 2)) G.n_list)) fun amounts7 => (c_cons (n_setix 7 (n3 := fun amounts10 => [.val Int count, .val (List (Str × (Tup Int))) lines, .val (List Int) times, .val Int at', .val Int other, .val Str sign2, .val (List (Str × (Tup Int))) wide3, .own Int none amounts10]) (e_add (e_ixp (l_own 7) (e_var 4)) e_int) (e_var 4)) fun amounts10 => (c_free 7 (ρ' := [.val Int count, .val (List (Str × (Tup Int))) lines, .val (List Int) times, .val Int at', .val Int other, .val Str sign2, .val (List (Str × (Tup Int))) wide3, .val (List Int) amounts10]) (c_if1 (t_not (t_val (e_call C (ok__law_balance_judged G) (a_consp (e_var 0) (a_consp (e_var 6) (a_cons (FG.ej (f_call C (ok__law_put G) (a_consp (e_var 7) (a_consp (e_var 3) (a_consp (e_negp e_int) a_nil))))) fun a13 => a_nil)))))) (SR.cp (r_ret e_bool)) (c_nil (.s (.s (.s (.s (.s (.n (.n (.n .nil)))))))))))))))) fun r1 => (r_ret e_bool))
def m__law_says_more (count : Int) (lines : List (Str × (Tup Int))) (times : List Int) (place : Int) : Res Bool :=
  (Res.bind (Res.bind (Res.bind (Res.bind (Res.ok times) fun z3 => lcX (fun _ => Res.ok true) (fun x2 => (Res.ok 0)) z3) fun a4 => m__law_balance_judged count lines a4) fun x5 => Res.ok (!x5)) fun k19 => if k19 then (Res.ok false) else (thenR (Res.bind (Res.ok [(Str.ofString ">="), (Str.ofString "=")]) fun z18 => forC (fun (r6 : Unit) sign7 => (Res.bind (Res.bind (Res.bind (Res.bind (Res.bind (Res.ok (cut lines none (some place))) fun x11 => Res.bind (Res.bind (Res.bind (Res.bind (idxM lines place) fun x8 => Res.ok x8.2) fun a9 => Res.ok (sign7, a9)) fun a10 => Res.ok [a10]) fun y12 => catM x11 y12) fun x13 => Res.bind (Res.ok (cut lines (some (place + 1)) none)) fun y14 => catM x13 y14) fun a15 => m__law_balance_judged count a15 times) fun x16 => Res.ok (!x16)) fun k17 => if k17 then liftC (Res.ok (Ctl.rt false)) else (Res.ok (Ctl.nx ())))) z18 ()) fun r6 => (Res.ok true)))
abbrev s__law_says_more : Stmt := topS 27
theorem sc__law_says_more : FnScope ["count", "lines", "times", "place", "sign", "x"] ["count", "lines", "times", "place"] (defScope s__law_says_more) := ⟨rfl, rfl, rfl, by decide +kernel, rfl, by decide +kernel, by decide +kernel⟩
theorem ok__law_says_more {P : Program} {w : World} {K : PySem.W.Frag} {mg : Str → Option Value} {base : Heap} (G : Fx P K mg) : FOk P w K mg base "_law_says_more" 3 (spOf K (asC (T := Int) (asC (T := (List (Str × (Tup Int)))) (asC (T := (List Int)) (asC (T := Int) asN)))) (fun u : Int × (List (Str × (Tup Int))) × (List Int) × Int × Unit => m__law_says_more u.1 u.2.1 u.2.2.1 u.2.2.2.1)) := by
  obtain ⟨fd, F⟩ := G.d__law_says_more
  refine fok_data (ρ0 := fun u : Int × (List (Str × (Tup Int))) × (List Int) × Int × Unit => [.val Int u.1, .val (List (Str × (Tup Int))) u.2.1, .val (List Int) u.2.2.1, .val Int u.2.2.2.1, .non, .non]) F G.g__law_says_more sc__law_says_more (F.bindsN (ps := ["count", "lines", "times", "place"]) fun _ _ _ _ _ _ us hl => match us, hl with | [_, _, _, _], _ => rfl) (by intro _; rfl) (by intro _; rfl) fun cdv A outer s H E C => ?_
  rintro ⟨count, lines, times, place, ⟨⟩⟩
  show SR _ _ none [.val Int count, .val (List (Str × (Tup Int))) lines, .val (List Int) times, .val Int place, .non, .non] _ (retD Bool) (m__law_says_more count lines times place)
  unfold m__law_says_more
  exact (r_if (t_not (t_val (e_call C (ok__law_balance_judged G) (a_consp (e_var 0) (a_consp (e_var 1) (a_cons (FG.ej (f_lc (ow := [(Str.ofString "x", 5)]) (ρw := [.val Int count, .val (List (Str × (Tup Int))) lines, .val (List Int) times, .val Int place, .non, .non]) C (i_list (e_var 2)) (fun s H Cc cl fp => ⟨(g_name 5 C.blk.nd), fun _ => lc_none, fun x2 => e_at [.val Int count, .val (List (Str × (Tup Int))) lines, .val (List Int) times, .val Int place, .non, .val Int x2] e_int⟩))) fun a4 => a_nil)))))) (r_ret e_bool) (rc_cons (b := eb) (c_for (ρl := fun (r6 : Unit) => [.val Int count, .val (List (Str × (Tup Int))) lines, .val (List Int) times, .val Int place, .non, .non]) (s0 := ()) C (i_list (FG.ej (f_list (mk := fun u => [u.1, u.2.1]) (a_consp e_str (a_consp e_str a_nil))))) (g_name 4 C.nd) (.s (.s (.s (.s (.n (.n .nil)))))) (fun r6 sign7 => c_at [.val Int count, .val (List (Str × (Tup Int))) lines, .val (List Int) times, .val Int place, .val Str sign7, .non] (c_if1 (t_not (t_val (e_call C (ok__law_balance_judged G) (a_consp (e_var 0) (a_cons (FG.ej (f_catm (FG.lg (f_catm (FG.lg (f_slicep (EG.lg (e_var 1)) o_none (o_somep (e_var 3)))) (FG.lg (f_list (mk := fun u => [u.1]) (a_cons (e_tup (mk := (fun u => (u.1, u.2.1))) (a_consp (e_var 4) (a_cons (e_pl (j := 1) (f := fun (x : (Str × (Tup Int))) => x.2) (e_ixp (EG.lg (e_var 1)) (e_var 3))) fun a9 => a_nil))) fun a10 => a_nil))))) (FG.lg (f_slicep (EG.lg (e_var 1)) (o_somep (e_addp (e_var 3) e_int)) o_none)))) fun a15 => (a_consp (e_var 2) a_nil)))))) (SR.cp (r_ret e_bool)) (c_nil (.s (.s (.s (.s (.n (.n .nil)))))))))) fun r6 => (r_ret e_bool)))
def m__law_each_unknown (count : Int) (lines : List (Str × (Tup Int))) (times : List Int) (place : Int) : Res Bool :=
  (Res.bind (Res.bind (Res.bind (idxM lines place) fun x2 => Res.ok x2.2) fun x3 => Res.ok x3.l) fun row1 => (thenR (Res.bind (guardR (inRange count) (Res.ok (rng 0 count))) fun z22 => forC (fun (r4 : Unit) unknown5 => (thenC (Res.bind (Res.ok [1, (-1)]) fun z21 => forC (fun (r6 : Unit) by'7 => (Res.bind (Res.bind (Res.bind (Res.ok (cut row1 none (some unknown5))) fun x12 => Res.bind (Res.bind (Res.bind (idxM row1 unknown5) fun x9 => Res.bind (Res.ok by'7) fun y10 => Res.ok (x9 + y10)) fun a11 => Res.ok [a11]) fun y13 => catM x12 y13) fun x14 => Res.bind (Res.ok (cut row1 (some (unknown5 + 1)) none)) fun y15 => catM x14 y15) fun other8 => (Res.bind (Res.bind (catM (cut lines none (some place)) [((Str.ofString ">"), (⟨other8⟩ : Tup Int))]) fun x17 => Res.bind (Res.ok (cut lines (some (place + 1)) none)) fun y18 => catM x17 y18) fun changed16 => (Res.bind (Res.bind (m__law_balance_judged count changed16 times) fun x19 => Res.ok (!x19)) fun k20 => if k20 then liftC (Res.ok (Ctl.rt false)) else (Res.ok (Ctl.nx ())))))) z21 ()) fun r6 => (Res.ok (Ctl.nx ())))) z22 ()) fun r4 => (Res.ok true)))
abbrev s__law_each_unknown : Stmt := topS 28
theorem sc__law_each_unknown : FnScope ["count", "lines", "times", "place", "row", "unknown", "by", "other", "changed"] ["count", "lines", "times", "place"] (defScope s__law_each_unknown) := ⟨rfl, rfl, rfl, by decide +kernel, rfl, by decide +kernel, by decide +kernel⟩
theorem ok__law_each_unknown {P : Program} {w : World} {K : PySem.W.Frag} {mg : Str → Option Value} {base : Heap} (G : Fx P K mg) : FOk P w K mg base "_law_each_unknown" 3 (spOf K (asC (T := Int) (asC (T := (List (Str × (Tup Int)))) (asC (T := (List Int)) (asC (T := Int) asN)))) (fun u : Int × (List (Str × (Tup Int))) × (List Int) × Int × Unit => m__law_each_unknown u.1 u.2.1 u.2.2.1 u.2.2.2.1)) := by
  obtain ⟨fd, F⟩ := G.d__law_each_unknown
  refine fok_data (ρ0 := fun u : Int × (List (Str × (Tup Int))) × (List Int) × Int × Unit => [.val Int u.1, .val (List (Str × (Tup Int))) u.2.1, .val (List Int) u.2.2.1, .val Int u.2.2.2.1, .non, .non, .non, .non, .non]) F G.g__law_each_unknown sc__law_each_unknown (F.bindsN (ps := ["count", "lines", "times", "place"]) fun _ _ _ _ _ _ us hl => match us, hl with | [_, _, _, _], _ => rfl) (by intro _; rfl) (by intro _; rfl) fun cdv A outer s H E C => ?_
  rintro ⟨count, lines, times, place, ⟨⟩⟩
  show SR _ _ none [.val Int count, .val (List (Str × (Tup Int))) lines, .val (List Int) times, .val Int place, .non, .non, .non, .non, .non] _ (retD Bool) (m__law_each_unknown count lines times place)
  unfold m__law_each_unknown
  exact (r_cons (n_set 4 (n3 := fun row1 => [.val Int count, .val (List (Str × (Tup Int))) lines, .val (List Int) times, .val Int place, .val (List Int) row1, .non, .non, .non, .non]) C.nd (FG.ej (f_listoft (e_pl (j := 1) (f := fun (x : (Str × (Tup Int))) => x.2) (e_ixp (EG.lg (e_var 1)) (e_var 3))) G.n_list))) fun row1 => (rc_cons (b := eb) (c_for (ρl := fun (r4 : Unit) => [.val Int count, .val (List (Str × (Tup Int))) lines, .val (List Int) times, .val Int place, .val (List Int) row1, .non, .non, .non, .non]) (s0 := ()) C (i_range1p (e_var 0) G.n_range) (g_name 5 C.nd) (.s (.s (.s (.s (.s (.n (.n (.n (.n .nil))))))))) (fun r4 unknown5 => c_at [.val Int count, .val (List (Str × (Tup Int))) lines, .val (List Int) times, .val Int place, .val (List Int) row1, .val Int unknown5, .non, .non, .non] (cc_cons (c_for (ρl := fun (r6 : Unit) => [.val Int count, .val (List (Str × (Tup Int))) lines, .val (List Int) times, .val Int place, .val (List Int) row1, .val Int unknown5, .non, .non, .non]) (s0 := ()) C (i_list (FG.ej (f_list (mk := fun u => [u.1, u.2.1]) (a_consp e_int (a_consp (e_negp e_int) a_nil))))) (g_name 6 C.nd) (.s (.s (.s (.s (.s (.s (.n (.n (.n .nil))))))))) (fun r6 by'7 => c_at [.val Int count, .val (List (Str × (Tup Int))) lines, .val (List Int) times, .val Int place, .val (List Int) row1, .val Int unknown5, .val Int by'7, .non, .non] (c_cons (n_set 7 (n3 := fun other8 => [.val Int count, .val (List (Str × (Tup Int))) lines, .val (List Int) times, .val Int place, .val (List Int) row1, .val Int unknown5, .val Int by'7, .val (List Int) other8, .non]) C.nd (FG.ej (f_catm (FG.lg (f_catm (FG.lg (f_slicep (EG.lg (e_var 4)) o_none (o_somep (e_var 5)))) (FG.lg (f_list (mk := fun u => [u.1]) (a_cons (e_add (e_ixp (EG.lg (e_var 4)) (e_var 5)) (e_var 6)) fun a11 => a_nil))))) (FG.lg (f_slicep (EG.lg (e_var 4)) (o_somep (e_addp (e_var 5) e_int)) o_none))))) fun other8 => (c_cons (n_set 8 (n3 := fun changed16 => [.val Int count, .val (List (Str × (Tup Int))) lines, .val (List Int) times, .val Int place, .val (List Int) row1, .val Int unknown5, .val Int by'7, .val (List Int) other8, .val (List (Str × (Tup Int))) changed16]) C.nd (FG.ej (f_catm (FG.lg (f_catp (FG.lg (f_slicep (EG.lg (e_var 1)) o_none (o_somep (e_var 3)))) (FG.lg (f_list (mk := fun u => [u.1]) (a_consp (e_tup (mk := (fun u => (u.1, u.2.1))) (a_consp e_str (a_consp (e_tupofp (EG.lg (e_var 7)) G.n_tuple) a_nil))) a_nil))))) (FG.lg (f_slicep (EG.lg (e_var 1)) (o_somep (e_addp (e_var 3) e_int)) o_none))))) fun changed16 => (c_if1 (t_not (t_val (e_call C (ok__law_balance_judged G) (a_consp (e_var 0) (a_consp (e_var 8) (a_consp (e_var 2) a_nil)))))) (SR.cp (r_ret e_bool)) (c_nil (.s (.s (.s (.s (.s (.s (.n (.n (.n .nil))))))))))))))) fun r6 => (c_nil (.s (.s (.s (.s (.s (.n (.n (.n (.n .nil))))))))))))) fun r4 => (r_ret e_bool)))
def m__law_line (sign : Str) (row : List Int) (numbers : List Int) (place : Int) (amount : Int) : Res (Str × (Tup Int)) :=
  (if (decide ((row.length : Int) = 0)) then (Res.ok (sign, (⟨[]⟩ : Tup Int))) else (Res.bind (Res.bind (guardR (inRange (row.length : Int)) (Res.ok (rng 0 (row.length : Int)))) fun z5 => lcX (fun _ => Res.ok true) (fun at'3 => (Res.bind (Res.ok (decide (at'3 = place))) fun k4 => if k4 then (Res.ok 0) else (idxM row at'3))) z5) fun other1 => (Res.bind (Res.bind (Res.bind (Res.bind (Res.ok amount) fun x6 => Res.bind ((m__law_value (Sq.mk false other1) numbers).quiet) fun y7 => Res.ok (x6 - y7)) fun x8 => Res.bind (idxM numbers place) fun y9 => mulM x8 y9) fun a11 => Res.bind (Res.ok place) fun b12 => setM other1 b12 a11) fun other10 => (Res.ok (sign, (⟨other10⟩ : Tup Int))))))
abbrev s__law_line : Stmt := topS 29
theorem sc__law_line : FnScope ["sign", "row", "numbers", "place", "amount", "other", "at"] ["sign", "row", "numbers", "place", "amount"] (defScope s__law_line) := ⟨rfl, rfl, rfl, by decide +kernel, rfl, by decide +kernel, by decide +kernel⟩
theorem ok__law_line {P : Program} {w : World} {K : PySem.W.Frag} {mg : Str → Option Value} {base : Heap} (G : Fx P K mg) : FOk P w K mg base "_law_line" 2 (spOf K (asC (T := Str) (asC (T := (List Int)) (asC (T := (List Int)) (asC (T := Int) (asC (T := Int) asN))))) (fun u : Str × (List Int) × (List Int) × Int × Int × Unit => m__law_line u.1 u.2.1 u.2.2.1 u.2.2.2.1 u.2.2.2.2.1)) := by
  obtain ⟨fd, F⟩ := G.d__law_line
  refine fok_data (ρ0 := fun u : Str × (List Int) × (List Int) × Int × Int × Unit => [.val Str u.1, .val (List Int) u.2.1, .val (List Int) u.2.2.1, .val Int u.2.2.2.1, .val Int u.2.2.2.2.1, .non, .non]) F G.g__law_line sc__law_line (F.bindsN (ps := ["sign", "row", "numbers", "place", "amount"]) fun _ _ _ _ _ _ us hl => match us, hl with | [_, _, _, _, _], _ => rfl) (by intro _; rfl) (by intro _; rfl) fun cdv A outer s H E C => ?_
  rintro ⟨sign, row, numbers, place, amount, ⟨⟩⟩
  show SR _ _ none [.val Str sign, .val (List Int) row, .val (List Int) numbers, .val Int place, .val Int amount, .non, .non] _ (retD (Str × (Tup Int))) (m__law_line sign row numbers place amount)
  unfold m__law_line
  exact (r_ifp (CJ.t (e_eqp (e_lenl (EG.lg (e_var 1)) G.n_len) e_int)) (r_ret (e_tup (mk := (fun u => (u.1, u.2.1))) (a_consp (e_var 0) (a_consp (e_tupL (mk := fun _ => (⟨[]⟩ : Tup Int)) a_nil) a_nil)))) (r_cons (n_lcF 5 (n3 := fun other1 => [.val Str sign, .val (List Int) row, .val (List Int) numbers, .val Int place, .val Int amount, .own Int none other1, .non]) (ow := [(Str.ofString "at", 6)]) (ρw := [.val Str sign, .val (List Int) row, .val (List Int) numbers, .val Int place, .val Int amount, .non, .non]) C (i_range1p (e_lenl (EG.lg (e_var 1)) G.n_len) G.n_range) (fun s H Cc cl fp => ⟨(g_name 6 C.blk.nd), fun _ => lc_none, fun at'3 => e_at [.val Str sign, .val (List Int) row, .val (List Int) numbers, .val Int place, .val Int amount, .non, .val Int at'3] (e_if (CJ.t (e_eqp (e_var 6) (e_var 3))) e_int (e_ixp (EG.lg (e_var 1)) (e_var 6)))⟩)) fun other1 => (r_cons (n_setix 5 (n3 := fun other10 => [.val Str sign, .val (List Int) row, .val (List Int) numbers, .val Int place, .val Int amount, .own Int none other10, .non]) (e_mul (e_sub (e_var 4) (EG.flat (e_callb C (ok__law_value G) (a_consp (e_upp up_L (e_own 5)) (a_consp (EG.borrow (e_var 2)) a_nil))))) (e_ixp (EG.lg (e_var 2)) (e_var 3))) (e_var 3)) fun other10 => (r_ret (e_tup (mk := (fun u => (u.1, u.2.1))) (a_consp (e_var 0) (a_consp (e_tupofp (l_own 5) G.n_tuple) a_nil)))))))
def m__law_fitting (script : Scr) (shape : List Int) : Res (T4 Int (List (Str × (Tup Int))) (List Int) (List (Str × (Tup Int)))) :=
  (Res.bind (Res.bind (idxM shape 8) fun x2 => Res.bind (Res.ok 8) fun y3 => modM x2 y3) fun count1 => (Res.bind (Res.bind (idxM shape 9) fun x5 => Res.bind (Res.ok 9) fun y6 => modM x5 y6) fun many4 => (Res.bind (Res.bind (Res.bind (Res.bind (idxM shape 2) fun x7 => Res.bind (Res.ok 16) fun y8 => modM x7 y8) fun x9 => Res.bind (Res.ok 5) fun y10 => Res.ok (decide (x9 = y10))) fun k14 => if k14 then (Res.bind (Res.ok 15) fun count12 => (Res.bind (Res.ok 59) fun many13 => (Res.ok (count12, many13)))) else (Res.ok (count1, many4))) fun r11 => (Res.bind (Res.ok 9) fun wide15 => (Res.bind (Res.ok 9) fun near16 => (Res.bind (Res.bind (Res.bind (Res.bind (idxM shape 10) fun x17 => Res.bind (Res.ok 8) fun y18 => modM x17 y18) fun x19 => Res.bind (Res.ok 3) fun y20 => Res.ok (decide (x19 = y20))) fun k24 => if k24 then (Res.bind (Res.ok 60000) fun wide22 => (Res.bind (Res.ok 1) fun near23 => (Res.ok (wide22, near23)))) else (Res.ok (wide15, near16))) fun r21 => (Res.bind (Res.bind (Res.bind (Res.bind (mulM 2 r21.1) fun x26 => Res.bind (Res.ok 1) fun y27 => Res.ok (x26 + y27)) fun a28 => m__law_many script 4 r11.1 a28) fun z31 => lcX (fun _ => Res.ok true) (fun x30 => (Res.ok (x30 - r21.1))) z31) fun numbers25 => (Res.bind (Res.ok 0) fun place32 => (Res.bind (if (decide (0 < r11.1)) then (Res.bind (Res.bind (idxM shape 11) fun x35 => Res.bind (Res.ok r11.1) fun y36 => modM x35 y36) fun place34 => (Res.bind (Res.bind (Res.bind (Res.ok [1, (-1)]) fun x39 => Res.bind (Res.bind (idxM shape 12) fun x37 => Res.bind (Res.ok 2) fun y38 => modM x37 y38) fun y40 => idxM x39 y40) fun a42 => Res.bind (Res.ok place34) fun b43 => setM numbers25 b43 a42) fun numbers41 => (Res.ok (numbers41, place34)))) else (Res.ok (numbers25, place32))) fun r33 => (Res.bind (Res.bind (Res.bind (mulM r11.1 r11.2) fun a47 => Res.bind (Res.bind (mulM 2 r21.2) fun x45 => Res.bind (Res.ok 1) fun y46 => Res.ok (x45 + y46)) fun a48 => m__law_many script 5 a47 a48) fun z51 => lcX (fun _ => Res.ok true) (fun x50 => (Res.ok (x50 - r21.2))) z51) fun entries44 => (Res.bind (m__law_many script 6 r11.2 12) fun picks52 => (Res.bind (Res.ok ([] : List (Str × (Tup Int)))) fun lines53 => (Res.bind (Res.ok ([] : List (Str × (Tup Int)))) fun broken54 => (Res.bind (Res.bind (guardR (inRange r11.2) (Res.ok (rng 0 r11.2))) fun z129 => forR (fun (r90 : (List (Str × (Tup Int))) × (List (Str × (Tup Int)))) at'91 => (Res.bind (Res.bind (Res.ok [(Str.ofString ">"), (Str.ofString ">="), (Str.ofString "=")]) fun x95 => Res.bind (Res.bind (idxM picks52 at'91) fun x93 => Res.bind (Res.ok 3) fun y94 => modM x93 y94) fun y96 => idxM x95 y96) fun sign92 => (Res.bind (if ((decide (r11.1 = 0)) && (decide (sign92 = (Str.ofString ">")))) then (Res.bind (Res.ok (Str.ofString ">=")) fun sign98 => (Res.ok sign98)) else (Res.ok sign92)) fun r97 => (Res.bind (Res.bind (Res.bind (Res.ok [[1, 1, 2, 9], [0, 0, 1, 7], [0, 0, 0, 0]]) fun x102 => Res.bind (Res.bind (Res.ok [(Str.ofString ">"), (Str.ofString ">="), (Str.ofString "=")]) fun x100 => Res.bind (Res.ok r97) fun y101 => indexM x100 y101) fun y103 => idxM x102 y103) fun x106 => Res.bind (Res.bind (idxM picks52 at'91) fun x104 => Res.bind (Res.ok 3) fun y105 => divM x104 y105) fun y107 => idxM x106 y107) fun above99 => (Res.bind (Res.bind (Res.bind (Res.ok [[0, 0, (-1), 0], [(-1), (-1), (-2), (-1)], [1, (-1), 1, (-1)]]) fun x111 => Res.bind (Res.bind (Res.ok [(Str.ofString ">"), (Str.ofString ">="), (Str.ofString "=")]) fun x109 => Res.bind (Res.ok r97) fun y110 => indexM x109 y110) fun y112 => idxM x111 y112) fun x115 => Res.bind (Res.bind (idxM picks52 at'91) fun x113 => Res.bind (Res.ok 3) fun y114 => divM x113 y114) fun y116 => idxM x115 y116) fun below108 => (Res.bind (Res.bind (Res.ok entries44) fun x122 => Res.bind (Res.bind (mulM at'91 r11.1) fun x118 => Res.ok (some x118)) fun y123 => Res.bind (Res.bind (Res.bind (mulM at'91 r11.1) fun x119 => Res.bind (Res.ok r11.1) fun y120 => Res.ok (x119 + y120)) fun x121 => Res.ok (some x121)) fun z124 => Res.ok (cut x122 y123 z124)) fun row117 => (Res.bind (Res.bind (m__law_line r97 row117 r33.1 r33.2 above99) fun y126 => appM r90.1 y126) fun lines125 => (Res.bind (Res.bind (m__law_line r97 row117 r33.1 r33.2 below108) fun y128 => appM r90.2 y128) fun broken127 => (Res.ok (lines125, broken127)))))))))) z129 (lines53, broken54)) fun r90 => (Res.ok (⟨r11.1, r90.1, r33.1, r90.2⟩))))))))))))))))
abbrev s__law_fitting : Stmt := topS 30
theorem sc__law_fitting : FnScope ["script", "shape", "count", "many", "wide", "near", "numbers", "place", "entries", "picks", "lines", "broken", "at", "sign", "above", "below", "row", "x"] ["script", "shape"] (defScope s__law_fitting) := ⟨rfl, rfl, rfl, by decide +kernel, rfl, by decide +kernel, by decide +kernel⟩
theorem ok__law_fitting {P : Program} {w : World} {K : PySem.W.Frag} {mg : Str → Option Value} {base : Heap} (G : Fx P K mg) : FOk P w K mg base "_law_fitting" 3 (spOf K (asC (T := Scr) (asC (T := (List Int)) asN)) (fun u : Scr × (List Int) × Unit => m__law_fitting u.1 u.2.1)) := by
  obtain ⟨fd, F⟩ := G.d__law_fitting
  refine fok_data (ρ0 := fun u : Scr × (List Int) × Unit => [.val Scr u.1, .val (List Int) u.2.1, .non, .non, .non, .non, .non, .non, .non, .non, .non, .non, .non, .non, .non, .non, .non, .non]) F G.g__law_fitting sc__law_fitting (F.bindsN (ps := ["script", "shape"]) fun _ _ _ _ _ _ us hl => match us, hl with | [_, _], _ => rfl) (by intro _; rfl) (by intro _; rfl) fun cdv A outer s H E C => ?_
  rintro ⟨script, shape, ⟨⟩⟩
  show SR _ _ none [.val Scr script, .val (List Int) shape, .non, .non, .non, .non, .non, .non, .non, .non, .non, .non, .non, .non, .non, .non, .non, .non] _ (retD (T4 Int (List (Str × (Tup Int))) (List Int) (List (Str × (Tup Int))))) (m__law_fitting script shape)
  unfold m__law_fitting
  exact (r_cons (n_set 2 (n3 := fun count1 => [.val Scr script, .val (List Int) shape, .val Int count1, .non, .non, .non, .non, .non, .non, .non, .non, .non, .non, .non, .non, .non, .non, .non]) C.nd (e_mod (e_int1m (e_ixp (EG.lg (e_var 1)) e_int) G.n_int) e_int)) fun count1 => (r_cons (n_set 3 (n3 := fun many4 => [.val Scr script, .val (List Int) shape, .val Int count1, .val Int many4, .non, .non, .non, .non, .non, .non, .non, .non, .non, .non, .non, .non, .non, .non]) C.nd (e_mod (e_int1m (e_ixp (EG.lg (e_var 1)) e_int) G.n_int) e_int)) fun many4 => (r_cons (n_if (n := fun (r11 : Int × Int) => [.val Scr script, .val (List Int) shape, .val Int r11.1, .val Int r11.2, .non, .non, .non, .non, .non, .non, .non, .non, .non, .non, .non, .non, .non, .non]) (CJ.t (e_eq (e_mod (e_int1m (e_ixp (EG.lg (e_var 1)) e_int) G.n_int) e_int) e_int)) (b_cons (n_set 2 (n3 := fun count12 => [.val Scr script, .val (List Int) shape, .val Int count12, .val Int many4, .non, .non, .non, .non, .non, .non, .non, .non, .non, .non, .non, .non, .non, .non]) C.nd e_int) fun count12 => (b_cons (n_set 3 (n3 := fun many13 => [.val Scr script, .val (List Int) shape, .val Int count12, .val Int many13, .non, .non, .non, .non, .non, .non, .non, .non, .non, .non, .non, .non, .non, .non]) C.nd e_int) fun many13 => (b_nil (.s (.s (.s (.s (.n (.n (.n (.n (.n (.n (.n (.n (.n (.n (.n (.n (.n (.n .nil))))))))))))))))))))) (b_nil (.s (.s (.s (.s (.n (.n (.n (.n (.n (.n (.n (.n (.n (.n (.n (.n (.n (.n .nil)))))))))))))))))))) fun r11 => (r_cons (n_set 4 (n3 := fun wide15 => [.val Scr script, .val (List Int) shape, .val Int r11.1, .val Int r11.2, .val Int wide15, .non, .non, .non, .non, .non, .non, .non, .non, .non, .non, .non, .non, .non]) C.nd e_int) fun wide15 => (r_cons (n_set 5 (n3 := fun near16 => [.val Scr script, .val (List Int) shape, .val Int r11.1, .val Int r11.2, .val Int wide15, .val Int near16, .non, .non, .non, .non, .non, .non, .non, .non, .non, .non, .non, .non]) C.nd e_int) fun near16 => (r_cons (n_if (n := fun (r21 : Int × Int) => [.val Scr script, .val (List Int) shape, .val Int r11.1, .val Int r11.2, .val Int r21.1, .val Int r21.2, .non, .non, .non, .non, .non, .non, .non, .non, .non, .non, .non, .non]) (CJ.t (e_eq (e_mod (e_int1m (e_ixp (EG.lg (e_var 1)) e_int) G.n_int) e_int) e_int)) (b_cons (n_set 4 (n3 := fun wide22 => [.val Scr script, .val (List Int) shape, .val Int r11.1, .val Int r11.2, .val Int wide22, .val Int near16, .non, .non, .non, .non, .non, .non, .non, .non, .non, .non, .non, .non]) C.nd e_int) fun wide22 => (b_cons (n_set 5 (n3 := fun near23 => [.val Scr script, .val (List Int) shape, .val Int r11.1, .val Int r11.2, .val Int wide22, .val Int near23, .non, .non, .non, .non, .non, .non, .non, .non, .non, .non, .non, .non]) C.nd e_int) fun near23 => (b_nil (.s (.s (.s (.s (.s (.s (.n (.n (.n (.n (.n (.n (.n (.n (.n (.n (.n (.n .nil))))))))))))))))))))) (b_nil (.s (.s (.s (.s (.s (.s (.n (.n (.n (.n (.n (.n (.n (.n (.n (.n (.n (.n .nil)))))))))))))))))))) fun r21 => (r_cons (n_lcF 6 (n3 := fun numbers25 => [.val Scr script, .val (List Int) shape, .val Int r11.1, .val Int r11.2, .val Int r21.1, .val Int r21.2, .own Int none numbers25, .non, .non, .non, .non, .non, .non, .non, .non, .non, .non, .non]) (ow := [(Str.ofString "x", 17)]) (ρw := [.val Scr script, .val (List Int) shape, .val Int r11.1, .val Int r11.2, .val Int r21.1, .val Int r21.2, .non, .non, .non, .non, .non, .non, .non, .non, .non, .non, .non, .non]) C (i_list (FG.ej (f_call C (ok__law_many G) (a_consp (e_var 0) (a_consp e_int (a_consp (e_var 2) (a_cons (e_add (e_mulp e_int (e_var 4)) e_int) fun a28 => a_nil))))))) (fun s H Cc cl fp => ⟨(g_name 17 C.blk.nd), fun _ => lc_none, fun x30 => e_at [.val Scr script, .val (List Int) shape, .val Int r11.1, .val Int r11.2, .val Int r21.1, .val Int r21.2, .non, .non, .non, .non, .non, .non, .non, .non, .non, .non, .non, .val Int x30] (e_subp (e_var 17) (e_var 4))⟩)) fun numbers25 => (r_cons (n_set 7 (n3 := fun place32 => [.val Scr script, .val (List Int) shape, .val Int r11.1, .val Int r11.2, .val Int r21.1, .val Int r21.2, .own Int none numbers25, .val Int place32, .non, .non, .non, .non, .non, .non, .non, .non, .non, .non]) C.nd e_int) fun place32 => (r_cons (n_ifp (n := fun (r33 : (List Int) × Int) => [.val Scr script, .val (List Int) shape, .val Int r11.1, .val Int r11.2, .val Int r21.1, .val Int r21.2, .own Int none r33.1, .val Int r33.2, .non, .non, .non, .non, .non, .non, .non, .non, .non, .non]) (CJ.t (e_gtp (e_var 2) e_int)) (b_cons (n_set 7 (n3 := fun place34 => [.val Scr script, .val (List Int) shape, .val Int r11.1, .val Int r11.2, .val Int r21.1, .val Int r21.2, .own Int none numbers25, .val Int place34, .non, .non, .non, .non, .non, .non, .non, .non, .non, .non]) C.nd (e_mod (e_int1m (e_ixp (EG.lg (e_var 1)) e_int) G.n_int) (e_var 2))) fun place34 => (b_cons (n_setix 6 (n3 := fun numbers41 => [.val Scr script, .val (List Int) shape, .val Int r11.1, .val Int r11.2, .val Int r21.1, .val Int r21.2, .own Int none numbers41, .val Int place34, .non, .non, .non, .non, .non, .non, .non, .non, .non, .non]) (e_ix (FG.lg (f_list (mk := fun u => [u.1, u.2.1]) (a_consp e_int (a_consp (e_negp e_int) a_nil)))) (e_mod (e_int1m (e_ixp (EG.lg (e_var 1)) e_int) G.n_int) e_int)) (e_var 7)) fun numbers41 => (b_nil (.s (.s (.s (.s (.s (.s (.s (.s (.n (.n (.n (.n (.n (.n (.n (.n (.n (.n .nil))))))))))))))))))))) (b_nil (.s (.s (.s (.s (.s (.s (.s (.s (.n (.n (.n (.n (.n (.n (.n (.n (.n (.n .nil)))))))))))))))))))) fun r33 => (r_cons (n_lc 8 (n3 := fun entries44 => [.val Scr script, .val (List Int) shape, .val Int r11.1, .val Int r11.2, .val Int r21.1, .val Int r21.2, .own Int none r33.1, .val Int r33.2, .val (List Int) entries44, .non, .non, .non, .non, .non, .non, .non, .non, .non]) (ow := [(Str.ofString "x", 17)]) (ρw := [.val Scr script, .val (List Int) shape, .val Int r11.1, .val Int r11.2, .val Int r21.1, .val Int r21.2, .own Int none r33.1, .val Int r33.2, .non, .non, .non, .non, .non, .non, .non, .non, .non, .non]) C (i_list (FG.ej (f_call C (ok__law_many G) (a_consp (e_var 0) (a_consp e_int (a_cons (e_mulp (e_var 2) (e_var 3)) fun a47 => (a_cons (e_add (e_mulp e_int (e_var 5)) e_int) fun a48 => a_nil))))))) (fun s H Cc cl fp => ⟨(g_name 17 C.blk.nd), fun _ => lc_none, fun x50 => e_at [.val Scr script, .val (List Int) shape, .val Int r11.1, .val Int r11.2, .val Int r21.1, .val Int r21.2, .own Int none r33.1, .val Int r33.2, .non, .non, .non, .non, .non, .non, .non, .non, .non, .val Int x50] (e_subp (e_var 17) (e_var 5))⟩)) fun entries44 => (r_cons (n_set 9 (n3 := fun picks52 => [.val Scr script, .val (List Int) shape, .val Int r11.1, .val Int r11.2, .val Int r21.1, .val Int r21.2, .own Int none r33.1, .val Int r33.2, .val (List Int) entries44, .val (List Int) picks52, .non, .non, .non, .non, .non, .non, .non, .non]) C.nd (FG.ej (f_call C (ok__law_many G) (a_consp (e_var 0) (a_consp e_int (a_consp (e_var 3) (a_consp e_int a_nil))))))) fun picks52 => (r_cons (n_setF 10 (n3 := fun lines53 => [.val Scr script, .val (List Int) shape, .val Int r11.1, .val Int r11.2, .val Int r21.1, .val Int r21.2, .own Int none r33.1, .val Int r33.2, .val (List Int) entries44, .val (List Int) picks52, .own (Str × (Tup Int)) none lines53, .non, .non, .non, .non, .non, .non, .non]) C.nd (f_list (mk := (fun _ => ([] : List (Str × (Tup Int))))) a_nil)) fun lines53 => (r_cons (n_setF 11 (n3 := fun broken54 => [.val Scr script, .val (List Int) shape, .val Int r11.1, .val Int r11.2, .val Int r21.1, .val Int r21.2, .own Int none r33.1, .val Int r33.2, .val (List Int) entries44, .val (List Int) picks52, .own (Str × (Tup Int)) none lines53, .own (Str × (Tup Int)) none broken54, .non, .non, .non, .non, .non, .non]) C.nd (f_list (mk := (fun _ => ([] : List (Str × (Tup Int))))) a_nil)) fun broken54 => (r_free 6 (ρ' := [.val Scr script, .val (List Int) shape, .val Int r11.1, .val Int r11.2, .val Int r21.1, .val Int r21.2, .val (List Int) r33.1, .val Int r33.2, .val (List Int) entries44, .val (List Int) picks52, .own (Str × (Tup Int)) none lines53, .own (Str × (Tup Int)) none broken54, .non, .non, .non, .non, .non, .non]) (r_cons (n_for (ρl := fun (r90 : (List (Str × (Tup Int))) × (List (Str × (Tup Int)))) => [.val Scr script, .val (List Int) shape, .val Int r11.1, .val Int r11.2, .val Int r21.1, .val Int r21.2, .val (List Int) r33.1, .val Int r33.2, .val (List Int) entries44, .val (List Int) picks52, .own (Str × (Tup Int)) none r90.1, .own (Str × (Tup Int)) none r90.2, .non, .non, .non, .non, .non, .non]) (s0 := (lines53, broken54)) C (i_range1p (e_var 3) G.n_range) (g_name 12 C.nd) (.s (.s (.s (.s (.s (.s (.s (.s (.s (.s (.s (.s (.n (.n (.n (.n (.n (.n .nil)))))))))))))))))) (fun r90 at'91 => b_at [.val Scr script, .val (List Int) shape, .val Int r11.1, .val Int r11.2, .val Int r21.1, .val Int r21.2, .val (List Int) r33.1, .val Int r33.2, .val (List Int) entries44, .val (List Int) picks52, .own (Str × (Tup Int)) none r90.1, .own (Str × (Tup Int)) none r90.2, .val Int at'91, .non, .non, .non, .non, .non] (b_cons (n_set 13 (n3 := fun sign92 => [.val Scr script, .val (List Int) shape, .val Int r11.1, .val Int r11.2, .val Int r21.1, .val Int r21.2, .val (List Int) r33.1, .val Int r33.2, .val (List Int) entries44, .val (List Int) picks52, .own (Str × (Tup Int)) none r90.1, .own (Str × (Tup Int)) none r90.2, .val Int at'91, .val Str sign92, .non, .non, .non, .non]) C.nd (e_ix (FG.lg (f_list (mk := fun u => [u.1, u.2.1, u.2.2.1]) (a_consp e_str (a_consp e_str (a_consp e_str a_nil))))) (e_mod (e_int1m (e_ixp (EG.lg (e_var 9)) (e_var 12)) G.n_int) e_int))) fun sign92 => (b_cons (n_ifp (n := fun (r97 : Str) => [.val Scr script, .val (List Int) shape, .val Int r11.1, .val Int r11.2, .val Int r21.1, .val Int r21.2, .val (List Int) r33.1, .val Int r33.2, .val (List Int) entries44, .val (List Int) picks52, .own (Str × (Tup Int)) none r90.1, .own (Str × (Tup Int)) none r90.2, .val Int at'91, .val Str r97, .non, .non, .non, .non]) (TWJ.pt (tw_andp (CJ.t (e_eqp (e_var 2) e_int)) (tw_and1 (CJ.t (e_eqp (e_var 13) e_str))))) (b_cons (n_set 13 (n3 := fun sign98 => [.val Scr script, .val (List Int) shape, .val Int r11.1, .val Int r11.2, .val Int r21.1, .val Int r21.2, .val (List Int) r33.1, .val Int r33.2, .val (List Int) entries44, .val (List Int) picks52, .own (Str × (Tup Int)) none r90.1, .own (Str × (Tup Int)) none r90.2, .val Int at'91, .val Str sign98, .non, .non, .non, .non]) C.nd e_str) fun sign98 => (b_nil (.s (.s (.s (.s (.s (.s (.s (.s (.s (.s (.s (.s (.s (.s (.n (.n (.n (.n .nil)))))))))))))))))))) (b_nil (.s (.s (.s (.s (.s (.s (.s (.s (.s (.s (.s (.s (.s (.s (.n (.n (.n (.n .nil)))))))))))))))))))) fun r97 => (b_cons (n_set 14 (n3 := fun above99 => [.val Scr script, .val (List Int) shape, .val Int r11.1, .val Int r11.2, .val Int r21.1, .val Int r21.2, .val (List Int) r33.1, .val Int r33.2, .val (List Int) entries44, .val (List Int) picks52, .own (Str × (Tup Int)) none r90.1, .own (Str × (Tup Int)) none r90.2, .val Int at'91, .val Str r97, .val Int above99, .non, .non, .non]) C.nd (e_ix (EG.lg (e_ix (FG.lg (f_list (mk := fun u => [u.1, u.2.1, u.2.2.1]) (a_consp (FG.ej (f_list (mk := fun u => [u.1, u.2.1, u.2.2.1, u.2.2.2.1]) (a_consp e_int (a_consp e_int (a_consp e_int (a_consp e_int a_nil)))))) (a_consp (FG.ej (f_list (mk := fun u => [u.1, u.2.1, u.2.2.1, u.2.2.2.1]) (a_consp e_int (a_consp e_int (a_consp e_int (a_consp e_int a_nil)))))) (a_consp (FG.ej (f_list (mk := fun u => [u.1, u.2.1, u.2.2.1, u.2.2.2.1]) (a_consp e_int (a_consp e_int (a_consp e_int (a_consp e_int a_nil)))))) a_nil))))) (e_lindex (FG.lg (f_list (mk := fun u => [u.1, u.2.1, u.2.2.1]) (a_consp e_str (a_consp e_str (a_consp e_str a_nil))))) (e_var 13)))) (e_int1m (e_fdiv (e_ixp (EG.lg (e_var 9)) (e_var 12)) e_int) G.n_int))) fun above99 => (b_cons (n_set 15 (n3 := fun below108 => [.val Scr script, .val (List Int) shape, .val Int r11.1, .val Int r11.2, .val Int r21.1, .val Int r21.2, .val (List Int) r33.1, .val Int r33.2, .val (List Int) entries44, .val (List Int) picks52, .own (Str × (Tup Int)) none r90.1, .own (Str × (Tup Int)) none r90.2, .val Int at'91, .val Str r97, .val Int above99, .val Int below108, .non, .non]) C.nd (e_ix (EG.lg (e_ix (FG.lg (f_list (mk := fun u => [u.1, u.2.1, u.2.2.1]) (a_consp (FG.ej (f_list (mk := fun u => [u.1, u.2.1, u.2.2.1, u.2.2.2.1]) (a_consp e_int (a_consp e_int (a_consp (e_negp e_int) (a_consp e_int a_nil)))))) (a_consp (FG.ej (f_list (mk := fun u => [u.1, u.2.1, u.2.2.1, u.2.2.2.1]) (a_consp (e_negp e_int) (a_consp (e_negp e_int) (a_consp (e_negp e_int) (a_consp (e_negp e_int) a_nil)))))) (a_consp (FG.ej (f_list (mk := fun u => [u.1, u.2.1, u.2.2.1, u.2.2.2.1]) (a_consp e_int (a_consp (e_negp e_int) (a_consp e_int (a_consp (e_negp e_int) a_nil)))))) a_nil))))) (e_lindex (FG.lg (f_list (mk := fun u => [u.1, u.2.1, u.2.2.1]) (a_consp e_str (a_consp e_str (a_consp e_str a_nil))))) (e_var 13)))) (e_int1m (e_fdiv (e_ixp (EG.lg (e_var 9)) (e_var 12)) e_int) G.n_int))) fun below108 => (b_cons (n_set 16 (n3 := fun row117 => [.val Scr script, .val (List Int) shape, .val Int r11.1, .val Int r11.2, .val Int r21.1, .val Int r21.2, .val (List Int) r33.1, .val Int r33.2, .val (List Int) entries44, .val (List Int) picks52, .own (Str × (Tup Int)) none r90.1, .own (Str × (Tup Int)) none r90.2, .val Int at'91, .val Str r97, .val Int above99, .val Int below108, .val (List Int) row117, .non]) C.nd (FG.ej (f_slice (EG.lg (e_var 8)) (o_some (e_mulp (e_var 12) (e_var 2))) (o_some (e_add (e_mulp (e_var 12) (e_var 2)) (e_var 2)))))) fun row117 => (b_cons (n_app 10 (n3 := fun lines125 => [.val Scr script, .val (List Int) shape, .val Int r11.1, .val Int r11.2, .val Int r21.1, .val Int r21.2, .val (List Int) r33.1, .val Int r33.2, .val (List Int) entries44, .val (List Int) picks52, .own (Str × (Tup Int)) none lines125, .own (Str × (Tup Int)) none r90.2, .val Int at'91, .val Str r97, .val Int above99, .val Int below108, .val (List Int) row117, .non]) (e_call C (ok__law_line G) (a_consp (e_var 13) (a_consp (e_var 16) (a_consp (e_var 6) (a_consp (e_var 7) (a_consp (e_var 14) a_nil))))))) fun lines125 => (b_cons (n_app 11 (n3 := fun broken127 => [.val Scr script, .val (List Int) shape, .val Int r11.1, .val Int r11.2, .val Int r21.1, .val Int r21.2, .val (List Int) r33.1, .val Int r33.2, .val (List Int) entries44, .val (List Int) picks52, .own (Str × (Tup Int)) none lines125, .own (Str × (Tup Int)) none broken127, .val Int at'91, .val Str r97, .val Int above99, .val Int below108, .val (List Int) row117, .non]) (e_call C (ok__law_line G) (a_consp (e_var 13) (a_consp (e_var 16) (a_consp (e_var 6) (a_consp (e_var 7) (a_consp (e_var 15) a_nil))))))) fun broken127 => (b_nil (.s (.s (.s (.s (.s (.s (.s (.s (.s (.s (.s (.s (.n (.n (.n (.n (.n (.n .nil)))))))))))))))))))))))))))) fun r90 => (r_free 11 (ρ' := [.val Scr script, .val (List Int) shape, .val Int r11.1, .val Int r11.2, .val Int r21.1, .val Int r21.2, .val (List Int) r33.1, .val Int r33.2, .val (List Int) entries44, .val (List Int) picks52, .own (Str × (Tup Int)) none r90.1, .val (List (Str × (Tup Int))) r90.2, .non, .non, .non, .non, .non, .non]) (r_free 10 (ρ' := [.val Scr script, .val (List Int) shape, .val Int r11.1, .val Int r11.2, .val Int r21.1, .val Int r21.2, .val (List Int) r33.1, .val Int r33.2, .val (List Int) entries44, .val (List Int) picks52, .val (List (Str × (Tup Int))) r90.1, .val (List (Str × (Tup Int))) r90.2, .non, .non, .non, .non, .non, .non]) (r_ret (e_tup (mk := (fun u => ⟨u.1, u.2.1, u.2.2.1, u.2.2.2.1⟩)) (a_consp (e_var 2) (a_consp (e_var 10) (a_consp (e_var 6) (a_consp (e_var 11) a_nil)))))))))))))))))))))))
def m__law_fit_right (count : Int) (lines : List (Str × (Tup Int))) (numbers : List Int) (broken : List (Str × (Tup Int))) (at' : Int) : Res Bool :=
  (Res.bind (orM (Res.bind (m__law_fit_judged count lines numbers) fun x1 => Res.ok (!x1)) (Res.bind (m__law_fit_judged count ([] : List (Str × (Tup Int))) numbers) fun x2 => Res.ok (!x2))) fun k33 => if k33 then (Res.ok false) else (Res.bind (Res.bind (Res.ok lines) fun z7 => lcX (fun _ => Res.ok true) (fun line5 => (Res.bind (catT line5.2 (⟨[0]⟩ : Tup Int)) fun a6 => Res.ok (line5.1, a6))) z7) fun wide3 => (thenR (Res.bind (Res.ok [([] : List Int), [0], [0, 0], [5], [(-7)]]) fun z13 => forC (fun (r8 : Unit) more9 => (Res.bind (Res.bind (Res.bind (catM numbers more9) fun a10 => m__law_fit_judged (count + 1) wide3 a10) fun x11 => Res.ok (!x11)) fun k12 => if k12 then liftC (Res.ok (Ctl.rt false)) else (Res.ok (Ctl.nx ())))) z13 ()) fun r8 => (Res.bind (Res.bind (Res.bind (catM numbers [0]) fun a14 => m__law_fit_judged count lines a14) fun x15 => Res.ok (!x15)) fun k32 => if k32 then (Res.ok false) else (if (decide (count = 0)) then (Res.bind (m__law_put_o2 lines at' ((Str.ofString ">"), (⟨[]⟩ : Tup Int))) fun a16 => m__law_fit_judged 0 a16 ([] : List Int)) else (thenR (Res.bind (guardR (inRange (lines.length : Int)) (Res.ok (rng 0 (lines.length : Int)))) fun z31 => forC (fun (r17 : Unit) place18 => (thenC (Res.bind (orM (Res.ok (decide ((lines.length : Int) < 9))) (orM (Res.ok (decide (place18 = at'))) (orM (Res.ok (decide (place18 = 0))) (orM (Res.ok (decide (place18 = ((lines.length : Int) - 1)))) (Res.bind (Res.ok place18) fun x19 => Res.bind (mulM 2 at') fun y20 => Res.ok (decide (x19 = y20))))))) fun k30 => if k30 then (Res.bind (Res.bind (Res.bind (Res.bind (Res.bind (Res.ok (cut lines none (some place18))) fun x23 => Res.bind (Res.bind (idxM broken place18) fun a22 => Res.ok [a22]) fun y24 => catM x23 y24) fun x25 => Res.bind (Res.ok (cut lines (some (place18 + 1)) none)) fun y26 => catM x25 y26) fun a27 => m__law_fit_judged count a27 numbers) fun x28 => Res.ok (!x28)) fun k29 => if k29 then liftC (Res.ok (Ctl.rt false)) else (Res.ok (Ctl.nx ()))) else (Res.ok (Ctl.nx ()))) fun r21 => (Res.ok (Ctl.nx ())))) z31 ()) fun r17 => (Res.ok true)))))))
abbrev s__law_fit_right : Stmt := topS 31
theorem sc__law_fit_right : FnScope ["count", "lines", "numbers", "broken", "at", "wide", "more", "place", "line"] ["count", "lines", "numbers", "broken", "at"] (defScope s__law_fit_right) := ⟨rfl, rfl, rfl, by decide +kernel, rfl, by decide +kernel, by decide +kernel⟩
theorem ok__law_fit_right {P : Program} {w : World} {K : PySem.W.Frag} {mg : Str → Option Value} {base : Heap} (G : Fx P K mg) : FOk P w K mg base "_law_fit_right" 5 (spOf K (asC (T := Int) (asC (T := (List (Str × (Tup Int)))) (asC (T := (List Int)) (asC (T := (List (Str × (Tup Int)))) (asC (T := Int) asN))))) (fun u : Int × (List (Str × (Tup Int))) × (List Int) × (List (Str × (Tup Int))) × Int × Unit => m__law_fit_right u.1 u.2.1 u.2.2.1 u.2.2.2.1 u.2.2.2.2.1)) := by
  obtain ⟨fd, F⟩ := G.d__law_fit_right
  refine fok_data (ρ0 := fun u : Int × (List (Str × (Tup Int))) × (List Int) × (List (Str × (Tup Int))) × Int × Unit => [.val Int u.1, .val (List (Str × (Tup Int))) u.2.1, .val (List Int) u.2.2.1, .val (List (Str × (Tup Int))) u.2.2.2.1, .val Int u.2.2.2.2.1, .non, .non, .non, .non]) F G.g__law_fit_right sc__law_fit_right (F.bindsN (ps := ["count", "lines", "numbers", "broken", "at"]) fun _ _ _ _ _ _ us hl => match us, hl with | [_, _, _, _, _], _ => rfl) (by intro _; rfl) (by intro _; rfl) fun cdv A outer s H E C => ?_
  rintro ⟨count, lines, numbers, broken, at', ⟨⟩⟩
  show SR _ _ none [.val Int count, .val (List (Str × (Tup Int))) lines, .val (List Int) numbers, .val (List (Str × (Tup Int))) broken, .val Int at', .non, .non, .non, .non] _ (retD Bool) (m__law_fit_right count lines numbers broken at')
  unfold m__law_fit_right
  exact (r_if (TWJ.pt (tw_or (t_not (t_val (e_call C (ok__law_fit_judged G) (a_consp (e_var 0) (a_consp (e_var 1) (a_consp (e_var 2) a_nil)))))) (tw_or1 (t_not (t_val (e_call C (ok__law_fit_judged G) (a_consp (e_var 0) (a_consp (FG.ej (f_list (mk := (fun _ => ([] : List (Str × (Tup Int))))) a_nil)) (a_consp (e_var 2) a_nil))))))))) (r_ret e_bool) (r_cons (n_lc 5 (n3 := fun wide3 => [.val Int count, .val (List (Str × (Tup Int))) lines, .val (List Int) numbers, .val (List (Str × (Tup Int))) broken, .val Int at', .val (List (Str × (Tup Int))) wide3, .non, .non, .non]) (ow := [(Str.ofString "line", 8)]) (ρw := [.val Int count, .val (List (Str × (Tup Int))) lines, .val (List Int) numbers, .val (List (Str × (Tup Int))) broken, .val Int at', .non, .non, .non, .non]) C (i_list (e_var 1)) (fun s H Cc cl fp => ⟨(g_name 8 C.blk.nd), fun _ => lc_none, fun line5 => e_at [.val Int count, .val (List (Str × (Tup Int))) lines, .val (List Int) numbers, .val (List (Str × (Tup Int))) broken, .val Int at', .non, .non, .non, .val (Str × (Tup Int)) line5] (e_tup (mk := (fun u => (u.1, u.2.1))) (a_consp (e_plp (j := 0) (f := fun (x : (Str × (Tup Int))) => x.1) (e_var 8)) (a_cons (e_catTp (e_plp (j := 1) (f := fun (x : (Str × (Tup Int))) => x.2) (e_var 8)) (e_tupL (mk := fun u => (⟨[u.1]⟩ : Tup Int)) (a_consp e_int a_nil))) fun a6 => a_nil)))⟩)) fun wide3 => (rc_cons (b := eb) (c_for (ρl := fun (r8 : Unit) => [.val Int count, .val (List (Str × (Tup Int))) lines, .val (List Int) numbers, .val (List (Str × (Tup Int))) broken, .val Int at', .val (List (Str × (Tup Int))) wide3, .non, .non, .non]) (s0 := ()) C (i_list (FG.ej (f_list (mk := fun u => [u.1, u.2.1, u.2.2.1, u.2.2.2.1, u.2.2.2.2.1]) (a_consp (FG.ej (f_list (mk := (fun _ => ([] : List Int))) a_nil)) (a_consp (FG.ej (f_list (mk := fun u => [u.1]) (a_consp e_int a_nil))) (a_consp (FG.ej (f_list (mk := fun u => [u.1, u.2.1]) (a_consp e_int (a_consp e_int a_nil)))) (a_consp (FG.ej (f_list (mk := fun u => [u.1]) (a_consp e_int a_nil))) (a_consp (FG.ej (f_list (mk := fun u => [u.1]) (a_consp (e_negp e_int) a_nil))) a_nil)))))))) (g_name 6 C.nd) (.s (.s (.s (.s (.s (.s (.n (.n (.n .nil))))))))) (fun r8 more9 => c_at [.val Int count, .val (List (Str × (Tup Int))) lines, .val (List Int) numbers, .val (List (Str × (Tup Int))) broken, .val Int at', .val (List (Str × (Tup Int))) wide3, .val (List Int) more9, .non, .non] (c_if1 (t_not (t_val (e_call C (ok__law_fit_judged G) (a_consp (e_addp (e_var 0) e_int) (a_consp (e_var 5) (a_cons (FG.ej (f_catp (EG.lg (e_var 2)) (EG.lg (e_var 6)))) fun a10 => a_nil)))))) (SR.cp (r_ret e_bool)) (c_nil (.s (.s (.s (.s (.s (.s (.n (.n (.n .nil))))))))))))) fun r8 => (r_if (t_not (t_val (e_call C (ok__law_fit_judged G) (a_consp (e_var 0) (a_consp (e_var 1) (a_cons (FG.ej (f_catp (EG.lg (e_var 2)) (FG.lg (f_list (mk := fun u => [u.1]) (a_consp e_int a_nil))))) fun a14 => a_nil)))))) (r_ret e_bool) (r_ifp (CJ.t (e_eqp (e_var 0) e_int)) (r_ret (e_call C (ok__law_fit_judged G) (a_consp e_int (a_cons (FG.ej (f_call C (ok__law_put_o2 G) (a_consp (e_var 1) (a_consp (e_var 4) (a_consp (e_tup (mk := (fun u => (u.1, u.2.1))) (a_consp e_str (a_consp (e_tupL (mk := fun _ => (⟨[]⟩ : Tup Int)) a_nil) a_nil))) a_nil))))) fun a16 => (a_consp (FG.ej (f_list (mk := (fun _ => ([] : List Int))) a_nil)) a_nil))))) (rc_cons (b := eb) (c_for (ρl := fun (r17 : Unit) => [.val Int count, .val (List (Str × (Tup Int))) lines, .val (List Int) numbers, .val (List (Str × (Tup Int))) broken, .val Int at', .val (List (Str × (Tup Int))) wide3, .non, .non, .non]) (s0 := ()) C (i_range1p (e_lenl (EG.lg (e_var 1)) G.n_len) G.n_range) (g_name 7 C.nd) (.s (.s (.s (.s (.s (.s (.n (.n (.n .nil))))))))) (fun r17 place18 => c_at [.val Int count, .val (List (Str × (Tup Int))) lines, .val (List Int) numbers, .val (List (Str × (Tup Int))) broken, .val Int at', .val (List (Str × (Tup Int))) wide3, .non, .val Int place18, .non] (cc_cons (c_if (n := fun (r21 : Unit) => [.val Int count, .val (List (Str × (Tup Int))) lines, .val (List Int) numbers, .val (List (Str × (Tup Int))) broken, .val Int at', .val (List (Str × (Tup Int))) wide3, .non, .val Int place18, .non]) (TWJ.pt (tw_or (CJ.t (e_ltp (e_lenl (EG.lg (e_var 1)) G.n_len) e_int)) (tw_or (CJ.t (e_eqp (e_var 7) (e_var 4))) (tw_or (CJ.t (e_eqp (e_var 7) e_int)) (tw_or (CJ.t (e_eqp (e_var 7) (e_subp (e_lenl (EG.lg (e_var 1)) G.n_len) e_int))) (tw_or1 (CJ.t (e_eq (e_var 7) (e_mulp e_int (e_var 4)))))))))) (c_if1 (t_not (t_val (e_call C (ok__law_fit_judged G) (a_consp (e_var 0) (a_cons (FG.ej (f_catm (FG.lg (f_catm (FG.lg (f_slicep (EG.lg (e_var 1)) o_none (o_somep (e_var 7)))) (FG.lg (f_list (mk := fun u => [u.1]) (a_cons (e_ixp (EG.lg (e_var 3)) (e_var 7)) fun a22 => a_nil))))) (FG.lg (f_slicep (EG.lg (e_var 1)) (o_somep (e_addp (e_var 7) e_int)) o_none)))) fun a27 => (a_consp (e_var 2) a_nil)))))) (SR.cp (r_ret e_bool)) (c_nil (.s (.s (.s (.s (.s (.s (.n (.s (.n .nil))))))))))) (c_nil (.s (.s (.s (.s (.s (.s (.n (.s (.n .nil))))))))))) fun r21 => (c_nil (.s (.s (.s (.s (.s (.s (.n (.n (.n .nil))))))))))))) fun r17 => (r_ret e_bool)))))))
def m__law_each_line (script : Scr) : Res Bool :=
  (Res.bind (m__law_many script 0 6 2520) fun shape1 => (Res.bind (Res.bind (idxM shape1 0) fun x3 => Res.bind (Res.ok 10) fun y4 => modM x3 y4) fun count2 => (Res.bind (Res.bind (Res.bind (Res.bind (idxM shape1 1) fun x5 => Res.bind (Res.ok 8) fun y6 => modM x5 y6) fun x7 => Res.bind (Res.ok 3) fun y8 => Res.ok (decide (x7 = y8))) fun k11 => if k11 then (Res.bind (Res.ok 16) fun count10 => (Res.ok count10)) else (Res.ok count2)) fun r9 => (Res.bind (Res.bind (Res.ok [1, 3, 30, 999999]) fun x15 => Res.bind (Res.bind (idxM shape1 2) fun x13 => Res.bind (Res.ok 4) fun y14 => modM x13 y14) fun y16 => idxM x15 y16) fun wide12 => (Res.bind (Res.bind (Res.bind (Res.bind (mulM 2 wide12) fun x18 => Res.bind (Res.ok 1) fun y19 => Res.ok (x18 + y19)) fun a20 => m__law_many script 1 r9 a20) fun z23 => lcX (fun _ => Res.ok true) (fun x22 => (Res.ok (x22 - wide12))) z23) fun row17 => (Res.bind (Res.bind (Res.bind (Res.bind (mulM 2 wide12) fun x25 => Res.bind (Res.ok 1) fun y26 => Res.ok (x25 + y26)) fun a27 => m__law_many script 2 r9 a27) fun z30 => lcX (fun _ => Res.ok true) (fun x29 => (Res.ok (x29 - wide12))) z30) fun free24 => (Res.bind (Res.bind (Res.bind (m__law_cell script 3) fun x32 => Res.bind (Res.ok 1999999) fun y33 => modM x32 y33) fun x34 => Res.bind (Res.ok 999999) fun y35 => Res.ok (x34 - y35)) fun drawn31 => (Res.bind (Res.bind (Res.bind (Res.bind (Res.ok row17) fun z39 => lcX (fun _ => Res.ok true) (fun x38 => (Res.ok 0)) z39) fun a40 => Res.ok (row17, a40)) fun a41 => Res.ok [(row17, free24), a41]) fun asked36 => (Res.bind (if (decide (0 < r9)) then (Res.bind (Res.bind (idxM shape1 3) fun x44 => Res.bind (Res.ok r9) fun y45 => modM x44 y45) fun place43 => (Res.bind (Res.bind (Res.ok [1, (-1)]) fun x49 => Res.bind (Res.bind (idxM shape1 4) fun x47 => Res.bind (Res.ok 2) fun y48 => modM x47 y48) fun y50 => idxM x49 y50) fun unit46 => (Res.bind (Res.bind (catM (cut row17 none (some place43)) [unit46]) fun x52 => Res.bind (Res.ok (cut row17 (some (place43 + 1)) none)) fun y53 => catM x52 y53) fun other51 => (Res.bind (Res.bind (Res.ok (other51, free24)) fun y55 => appM asked36 y55) fun asked54 => (Res.bind (Res.bind (Res.ok [0, 1, (-1), 999999, (-999999), drawn31]) fun z61 => forR (fun (r56 : (List ((List Int) × (List Int)))) amount57 => (Res.bind (Res.bind (Res.bind (m__law_closed other51 place43 amount57) fun a58 => Res.ok (other51, a58)) fun y60 => appM r56 y60) fun asked59 => (Res.ok asked59))) z61 asked54) fun r56 => (Res.ok r56)))))) else (Res.ok asked36)) fun r42 => (thenR (Res.bind (Res.ok [(Str.ofString ">"), (Str.ofString ">="), (Str.ofString "=")]) fun z71 => forC (fun (r64 : Unit) sign65 => (thenC (Res.bind (Res.ok r42) fun z70 => forC (fun (r66 : Unit) pair67 => (Res.bind (Res.bind (m__law_line_right sign65 pair67.1 pair67.2) fun x68 => Res.ok (!x68)) fun k69 => if k69 then liftC (Res.ok (Ctl.rt false)) else (Res.ok (Ctl.nx ())))) z70 ()) fun r66 => (Res.ok (Ctl.nx ())))) z71 ()) fun r64 => (Res.ok true)))))))))))
abbrev s__law_each_line : Stmt := topS 32
theorem sc__law_each_line : FnScope ["script", "shape", "count", "wide", "row", "free", "drawn", "asked", "place", "unit", "other", "amount", "sign", "pair", "x"] ["script"] (defScope s__law_each_line) := ⟨rfl, rfl, rfl, by decide +kernel, rfl, by decide +kernel, by decide +kernel⟩
theorem ok__law_each_line {P : Program} {w : World} {K : PySem.W.Frag} {mg : Str → Option Value} {base : Heap} (G : Fx P K mg) : FOk P w K mg base "_law_each_line" 13 (spOf K (asC (T := Scr) asN) (fun u : Scr × Unit => m__law_each_line u.1)) := by
  obtain ⟨fd, F⟩ := G.d__law_each_line
  refine fok_data (ρ0 := fun u : Scr × Unit => [.val Scr u.1, .non, .non, .non, .non, .non, .non, .non, .non, .non, .non, .non, .non, .non, .non]) F G.g__law_each_line sc__law_each_line (F.bindsN (ps := ["script"]) fun _ _ _ _ _ _ us hl => match us, hl with | [_], _ => rfl) (by intro _; rfl) (by intro _; rfl) fun cdv A outer s H E C => ?_
  rintro ⟨script, ⟨⟩⟩
  show SR _ _ none [.val Scr script, .non, .non, .non, .non, .non, .non, .non, .non, .non, .non, .non, .non, .non, .non] _ (retD Bool) (m__law_each_line script)
  unfold m__law_each_line
  exact (r_cons (n_set 1 (n3 := fun shape1 => [.val Scr script, .val (List Int) shape1, .non, .non, .non, .non, .non, .non, .non, .non, .non, .non, .non, .non, .non]) C.nd (FG.ej (f_call C (ok__law_many G) (a_consp (e_var 0) (a_consp e_int (a_consp e_int (a_consp e_int a_nil))))))) fun shape1 => (r_cons (n_set 2 (n3 := fun count2 => [.val Scr script, .val (List Int) shape1, .val Int count2, .non, .non, .non, .non, .non, .non, .non, .non, .non, .non, .non, .non]) C.nd (e_mod (e_int1m (e_ixp (EG.lg (e_var 1)) e_int) G.n_int) e_int)) fun count2 => (r_cons (n_if (n := fun (r9 : Int) => [.val Scr script, .val (List Int) shape1, .val Int r9, .non, .non, .non, .non, .non, .non, .non, .non, .non, .non, .non, .non]) (CJ.t (e_eq (e_mod (e_int1m (e_ixp (EG.lg (e_var 1)) e_int) G.n_int) e_int) e_int)) (b_cons (n_set 2 (n3 := fun count10 => [.val Scr script, .val (List Int) shape1, .val Int count10, .non, .non, .non, .non, .non, .non, .non, .non, .non, .non, .non, .non]) C.nd e_int) fun count10 => (b_nil (.s (.s (.s (.n (.n (.n (.n (.n (.n (.n (.n (.n (.n (.n (.n .nil))))))))))))))))) (b_nil (.s (.s (.s (.n (.n (.n (.n (.n (.n (.n (.n (.n (.n (.n (.n .nil))))))))))))))))) fun r9 => (r_cons (n_set 3 (n3 := fun wide12 => [.val Scr script, .val (List Int) shape1, .val Int r9, .val Int wide12, .non, .non, .non, .non, .non, .non, .non, .non, .non, .non, .non]) C.nd (e_ix (FG.lg (f_list (mk := fun u => [u.1, u.2.1, u.2.2.1, u.2.2.2.1]) (a_consp e_int (a_consp e_int (a_consp e_int (a_consp e_int a_nil)))))) (e_mod (e_int1m (e_ixp (EG.lg (e_var 1)) e_int) G.n_int) e_int))) fun wide12 => (r_cons (n_lc 4 (n3 := fun row17 => [.val Scr script, .val (List Int) shape1, .val Int r9, .val Int wide12, .val (List Int) row17, .non, .non, .non, .non, .non, .non, .non, .non, .non, .non]) (ow := [(Str.ofString "x", 14)]) (ρw := [.val Scr script, .val (List Int) shape1, .val Int r9, .val Int wide12, .non, .non, .non, .non, .non, .non, .non, .non, .non, .non, .non]) C (i_list (FG.ej (f_call C (ok__law_many G) (a_consp (e_var 0) (a_consp e_int (a_consp (e_var 2) (a_cons (e_add (e_mulp e_int (e_var 3)) e_int) fun a20 => a_nil))))))) (fun s H Cc cl fp => ⟨(g_name 14 C.blk.nd), fun _ => lc_none, fun x22 => e_at [.val Scr script, .val (List Int) shape1, .val Int r9, .val Int wide12, .non, .non, .non, .non, .non, .non, .non, .non, .non, .non, .val Int x22] (e_subp (e_var 14) (e_var 3))⟩)) fun row17 => (r_cons (n_lc 5 (n3 := fun free24 => [.val Scr script, .val (List Int) shape1, .val Int r9, .val Int wide12, .val (List Int) row17, .val (List Int) free24, .non, .non, .non, .non, .non, .non, .non, .non, .non]) (ow := [(Str.ofString "x", 14)]) (ρw := [.val Scr script, .val (List Int) shape1, .val Int r9, .val Int wide12, .val (List Int) row17, .non, .non, .non, .non, .non, .non, .non, .non, .non, .non]) C (i_list (FG.ej (f_call C (ok__law_many G) (a_consp (e_var 0) (a_consp e_int (a_consp (e_var 2) (a_cons (e_add (e_mulp e_int (e_var 3)) e_int) fun a27 => a_nil))))))) (fun s H Cc cl fp => ⟨(g_name 14 C.blk.nd), fun _ => lc_none, fun x29 => e_at [.val Scr script, .val (List Int) shape1, .val Int r9, .val Int wide12, .val (List Int) row17, .non, .non, .non, .non, .non, .non, .non, .non, .non, .val Int x29] (e_subp (e_var 14) (e_var 3))⟩)) fun free24 => (r_cons (n_set 6 (n3 := fun drawn31 => [.val Scr script, .val (List Int) shape1, .val Int r9, .val Int wide12, .val (List Int) row17, .val (List Int) free24, .val Int drawn31, .non, .non, .non, .non, .non, .non, .non, .non]) C.nd (e_sub (e_mod (e_int1m (e_call C (ok__law_cell G) (a_consp (e_var 0) (a_consp e_int a_nil))) G.n_int) e_int) e_int)) fun drawn31 => (r_cons (n_setF 7 (n3 := fun asked36 => [.val Scr script, .val (List Int) shape1, .val Int r9, .val Int wide12, .val (List Int) row17, .val (List Int) free24, .val Int drawn31, .own ((List Int) × (List Int)) none asked36, .non, .non, .non, .non, .non, .non, .non]) C.nd (f_list (mk := fun u => [u.1, u.2.1]) (a_consp (e_tup (mk := (fun u => (u.1, u.2.1))) (a_consp (e_var 4) (a_consp (e_var 5) a_nil))) (a_cons (e_tup (mk := (fun u => (u.1, u.2.1))) (a_consp (e_var 4) (a_cons (FG.ej (f_lc (ow := [(Str.ofString "x", 14)]) (ρw := [.val Scr script, .val (List Int) shape1, .val Int r9, .val Int wide12, .val (List Int) row17, .val (List Int) free24, .val Int drawn31, .non, .non, .non, .non, .non, .non, .non, .non]) C (i_list (e_var 4)) (fun s H Cc cl fp => ⟨(g_name 14 C.blk.nd), fun _ => lc_none, fun x38 => e_at [.val Scr script, .val (List Int) shape1, .val Int r9, .val Int wide12, .val (List Int) row17, .val (List Int) free24, .val Int drawn31, .non, .non, .non, .non, .non, .non, .non, .val Int x38] e_int⟩))) fun a40 => a_nil))) fun a41 => a_nil)))) fun asked36 => (r_cons (n_ifp (n := fun (r42 : (List ((List Int) × (List Int)))) => [.val Scr script, .val (List Int) shape1, .val Int r9, .val Int wide12, .val (List Int) row17, .val (List Int) free24, .val Int drawn31, .own ((List Int) × (List Int)) none r42, .non, .non, .non, .non, .non, .non, .non]) (CJ.t (e_gtp (e_var 2) e_int)) (b_cons (n_set 8 (n3 := fun place43 => [.val Scr script, .val (List Int) shape1, .val Int r9, .val Int wide12, .val (List Int) row17, .val (List Int) free24, .val Int drawn31, .own ((List Int) × (List Int)) none asked36, .val Int place43, .non, .non, .non, .non, .non, .non]) C.nd (e_mod (e_int1m (e_ixp (EG.lg (e_var 1)) e_int) G.n_int) (e_var 2))) fun place43 => (b_cons (n_set 9 (n3 := fun unit46 => [.val Scr script, .val (List Int) shape1, .val Int r9, .val Int wide12, .val (List Int) row17, .val (List Int) free24, .val Int drawn31, .own ((List Int) × (List Int)) none asked36, .val Int place43, .val Int unit46, .non, .non, .non, .non, .non]) C.nd (e_ix (FG.lg (f_list (mk := fun u => [u.1, u.2.1]) (a_consp e_int (a_consp (e_negp e_int) a_nil)))) (e_mod (e_int1m (e_ixp (EG.lg (e_var 1)) e_int) G.n_int) e_int))) fun unit46 => (b_cons (n_set 10 (n3 := fun other51 => [.val Scr script, .val (List Int) shape1, .val Int r9, .val Int wide12, .val (List Int) row17, .val (List Int) free24, .val Int drawn31, .own ((List Int) × (List Int)) none asked36, .val Int place43, .val Int unit46, .val (List Int) other51, .non, .non, .non, .non]) C.nd (FG.ej (f_catm (FG.lg (f_catp (FG.lg (f_slicep (EG.lg (e_var 4)) o_none (o_somep (e_var 8)))) (FG.lg (f_list (mk := fun u => [u.1]) (a_consp (e_var 9) a_nil))))) (FG.lg (f_slicep (EG.lg (e_var 4)) (o_somep (e_addp (e_var 8) e_int)) o_none))))) fun other51 => (b_cons (n_app 7 (n3 := fun asked54 => [.val Scr script, .val (List Int) shape1, .val Int r9, .val Int wide12, .val (List Int) row17, .val (List Int) free24, .val Int drawn31, .own ((List Int) × (List Int)) none asked54, .val Int place43, .val Int unit46, .val (List Int) other51, .non, .non, .non, .non]) (e_tup (mk := (fun u => (u.1, u.2.1))) (a_consp (e_var 10) (a_consp (e_var 5) a_nil)))) fun asked54 => (b_cons (n_for (ρl := fun (r56 : (List ((List Int) × (List Int)))) => [.val Scr script, .val (List Int) shape1, .val Int r9, .val Int wide12, .val (List Int) row17, .val (List Int) free24, .val Int drawn31, .own ((List Int) × (List Int)) none r56, .val Int place43, .val Int unit46, .val (List Int) other51, .non, .non, .non, .non]) (s0 := asked54) C (i_list (FG.ej (f_list (mk := fun u => [u.1, u.2.1, u.2.2.1, u.2.2.2.1, u.2.2.2.2.1, u.2.2.2.2.2.1]) (a_consp e_int (a_consp e_int (a_consp (e_negp e_int) (a_consp e_int (a_consp (e_negp e_int) (a_consp (e_var 6) a_nil))))))))) (g_name 11 C.nd) (.s (.s (.s (.s (.s (.s (.s (.s (.s (.s (.s (.n (.n (.n (.n .nil))))))))))))))) (fun r56 amount57 => b_at [.val Scr script, .val (List Int) shape1, .val Int r9, .val Int wide12, .val (List Int) row17, .val (List Int) free24, .val Int drawn31, .own ((List Int) × (List Int)) none r56, .val Int place43, .val Int unit46, .val (List Int) other51, .val Int amount57, .non, .non, .non] (b_cons (n_app 7 (n3 := fun asked59 => [.val Scr script, .val (List Int) shape1, .val Int r9, .val Int wide12, .val (List Int) row17, .val (List Int) free24, .val Int drawn31, .own ((List Int) × (List Int)) none asked59, .val Int place43, .val Int unit46, .val (List Int) other51, .val Int amount57, .non, .non, .non]) (e_tup (mk := (fun u => (u.1, u.2.1))) (a_consp (e_var 10) (a_cons (FG.ej (f_call C (ok__law_closed G) (a_consp (e_var 10) (a_consp (e_var 8) (a_consp (e_var 11) a_nil))))) fun a58 => a_nil)))) fun asked59 => (b_nil (.s (.s (.s (.s (.s (.s (.s (.s (.s (.s (.s (.n (.n (.n (.n .nil))))))))))))))))))) fun r56 => (b_nil (.s (.s (.s (.s (.s (.s (.s (.s (.n (.n (.n (.n (.n (.n (.n .nil))))))))))))))))))))) (b_nil (.s (.s (.s (.s (.s (.s (.s (.s (.n (.n (.n (.n (.n (.n (.n .nil))))))))))))))))) fun r42 => (r_free 7 (ρ' := [.val Scr script, .val (List Int) shape1, .val Int r9, .val Int wide12, .val (List Int) row17, .val (List Int) free24, .val Int drawn31, .val (List ((List Int) × (List Int))) r42, .non, .non, .non, .non, .non, .non, .non]) (rc_cons (b := eb) (c_for (ρl := fun (r64 : Unit) => [.val Scr script, .val (List Int) shape1, .val Int r9, .val Int wide12, .val (List Int) row17, .val (List Int) free24, .val Int drawn31, .val (List ((List Int) × (List Int))) r42, .non, .non, .non, .non, .non, .non, .non]) (s0 := ()) C (i_list (FG.ej (f_list (mk := fun u => [u.1, u.2.1, u.2.2.1]) (a_consp e_str (a_consp e_str (a_consp e_str a_nil)))))) (g_name 12 C.nd) (.s (.s (.s (.s (.s (.s (.s (.s (.n (.n (.n (.n (.n (.n (.n .nil))))))))))))))) (fun r64 sign65 => c_at [.val Scr script, .val (List Int) shape1, .val Int r9, .val Int wide12, .val (List Int) row17, .val (List Int) free24, .val Int drawn31, .val (List ((List Int) × (List Int))) r42, .non, .non, .non, .non, .val Str sign65, .non, .non] (cc_cons (c_for (ρl := fun (r66 : Unit) => [.val Scr script, .val (List Int) shape1, .val Int r9, .val Int wide12, .val (List Int) row17, .val (List Int) free24, .val Int drawn31, .val (List ((List Int) × (List Int))) r42, .non, .non, .non, .non, .val Str sign65, .non, .non]) (s0 := ()) C (i_list (e_var 7)) (g_name 13 C.nd) (.s (.s (.s (.s (.s (.s (.s (.s (.n (.n (.n (.n (.s (.n (.n .nil))))))))))))))) (fun r66 pair67 => c_at [.val Scr script, .val (List Int) shape1, .val Int r9, .val Int wide12, .val (List Int) row17, .val (List Int) free24, .val Int drawn31, .val (List ((List Int) × (List Int))) r42, .non, .non, .non, .non, .val Str sign65, .val ((List Int) × (List Int)) pair67, .non] (c_if1 (t_not (t_val (e_call C (ok__law_line_right G) (a_consp (e_var 12) (a_consp (e_plp (j := 0) (f := fun (x : ((List Int) × (List Int))) => x.1) (e_var 13)) (a_consp (e_plp (j := 1) (f := fun (x : ((List Int) × (List Int))) => x.2) (e_var 13)) a_nil)))))) (SR.cp (r_ret e_bool)) (c_nil (.s (.s (.s (.s (.s (.s (.s (.s (.n (.n (.n (.n (.s (.n (.n .nil))))))))))))))))))) fun r66 => (c_nil (.s (.s (.s (.s (.s (.s (.s (.s (.n (.n (.n (.n (.n (.n (.n .nil))))))))))))))))))) fun r64 => (r_ret e_bool))))))))))))
def m__law_each_judge (script : Scr) : Res Bool :=
  (Res.bind (m__law_many script 0 16 2520) fun shape1 => (Res.bind (m__law_system script shape1) fun system2 => (Res.bind (Res.ok system2.a) fun count3 => (Res.bind (Res.ok system2.b) fun lines4 => (Res.bind (Res.ok system2.c) fun times5 => (Res.bind (Res.ok system2.d) fun place6 => (Res.bind (Res.bind (idxM shape1 13) fun x8 => Res.bind (Res.ok ((lines4.length : Int) + 1)) fun y9 => modM x8 y9) fun at'7 => (Res.bind (orM (Res.bind (m__law_balance_judged count3 lines4 times5) fun x10 => Res.ok (!x10)) (Res.bind (m__law_times_counted count3 lines4 times5 at'7) fun x11 => Res.ok (!x11))) fun k25 => if k25 then (Res.ok false) else (Res.bind (orM (Res.bind (m__law_twice count3 lines4 times5 at'7 place6) fun x12 => Res.ok (!x12)) (Res.bind (Res.bind (Res.bind (idxM shape1 14) fun x13 => Res.bind (Res.ok (lines4.length : Int)) fun y14 => modM x13 y14) fun a15 => m__law_twice count3 lines4 times5 at'7 a15) fun x16 => Res.ok (!x16))) fun k24 => if k24 then (Res.ok false) else (Res.bind (orM (Res.bind (m__law_says_more count3 lines4 times5 place6) fun x17 => Res.ok (!x17)) (Res.bind (m__law_each_unknown count3 lines4 times5 place6) fun x18 => Res.ok (!x18))) fun k23 => if k23 then (Res.ok false) else (Res.bind (m__law_fitting script shape1) fun fitting19 => (Res.bind (Res.bind (idxM shape1 15) fun x21 => Res.bind (Res.ok ((fitting19.b.length : Int) + 1)) fun y22 => modM x21 y22) fun at'20 => (m__law_fit_right fitting19.a fitting19.b fitting19.c fitting19.d at'20)))))))))))))
abbrev s__law_each_judge : Stmt := topS 33
theorem sc__law_each_judge : FnScope ["script", "shape", "system", "count", "lines", "times", "place", "at", "fitting"] ["script"] (defScope s__law_each_judge) := ⟨rfl, rfl, rfl, by decide +kernel, rfl, by decide +kernel, by decide +kernel⟩
theorem ok__law_each_judge {P : Program} {w : World} {K : PySem.W.Frag} {mg : Str → Option Value} {base : Heap} (G : Fx P K mg) : FOk P w K mg base "_law_each_judge" 6 (spOf K (asC (T := Scr) asN) (fun u : Scr × Unit => m__law_each_judge u.1)) := by
  obtain ⟨fd, F⟩ := G.d__law_each_judge
  refine fok_data (ρ0 := fun u : Scr × Unit => [.val Scr u.1, .non, .non, .non, .non, .non, .non, .non, .non]) F G.g__law_each_judge sc__law_each_judge (F.bindsN (ps := ["script"]) fun _ _ _ _ _ _ us hl => match us, hl with | [_], _ => rfl) (by intro _; rfl) (by intro _; rfl) fun cdv A outer s H E C => ?_
  rintro ⟨script, ⟨⟩⟩
  show SR _ _ none [.val Scr script, .non, .non, .non, .non, .non, .non, .non, .non] _ (retD Bool) (m__law_each_judge script)
  unfold m__law_each_judge
  exact (r_cons (n_set 1 (n3 := fun shape1 => [.val Scr script, .val (List Int) shape1, .non, .non, .non, .non, .non, .non, .non]) C.nd (FG.ej (f_call C (ok__law_many G) (a_consp (e_var 0) (a_consp e_int (a_consp e_int (a_consp e_int a_nil))))))) fun shape1 => (r_cons (n_set 2 (n3 := fun system2 => [.val Scr script, .val (List Int) shape1, .val (T4 Int (List (Str × (Tup Int))) (List Int) Int) system2, .non, .non, .non, .non, .non, .non]) C.nd (e_call C (ok__law_system G) (a_consp (e_var 0) (a_consp (e_var 1) a_nil)))) fun system2 => (r_cons (n_set 3 (n3 := fun count3 => [.val Scr script, .val (List Int) shape1, .val (T4 Int (List (Str × (Tup Int))) (List Int) Int) system2, .val Int count3, .non, .non, .non, .non, .non]) C.nd (e_plp (j := 0) (f := fun (x : (T4 Int (List (Str × (Tup Int))) (List Int) Int)) => x.a) (e_var 2))) fun count3 => (r_cons (n_set 4 (n3 := fun lines4 => [.val Scr script, .val (List Int) shape1, .val (T4 Int (List (Str × (Tup Int))) (List Int) Int) system2, .val Int count3, .val (List (Str × (Tup Int))) lines4, .non, .non, .non, .non]) C.nd (e_plp (j := 1) (f := fun (x : (T4 Int (List (Str × (Tup Int))) (List Int) Int)) => x.b) (e_var 2))) fun lines4 => (r_cons (n_set 5 (n3 := fun times5 => [.val Scr script, .val (List Int) shape1, .val (T4 Int (List (Str × (Tup Int))) (List Int) Int) system2, .val Int count3, .val (List (Str × (Tup Int))) lines4, .val (List Int) times5, .non, .non, .non]) C.nd (e_plp (j := 2) (f := fun (x : (T4 Int (List (Str × (Tup Int))) (List Int) Int)) => x.c) (e_var 2))) fun times5 => (r_cons (n_set 6 (n3 := fun place6 => [.val Scr script, .val (List Int) shape1, .val (T4 Int (List (Str × (Tup Int))) (List Int) Int) system2, .val Int count3, .val (List (Str × (Tup Int))) lines4, .val (List Int) times5, .val Int place6, .non, .non]) C.nd (e_plp (j := 3) (f := fun (x : (T4 Int (List (Str × (Tup Int))) (List Int) Int)) => x.d) (e_var 2))) fun place6 => (r_cons (n_set 7 (n3 := fun at'7 => [.val Scr script, .val (List Int) shape1, .val (T4 Int (List (Str × (Tup Int))) (List Int) Int) system2, .val Int count3, .val (List (Str × (Tup Int))) lines4, .val (List Int) times5, .val Int place6, .val Int at'7, .non]) C.nd (e_mod (e_int1m (e_ixp (EG.lg (e_var 1)) e_int) G.n_int) (e_addp (e_lenl (EG.lg (e_var 4)) G.n_len) e_int))) fun at'7 => (r_if (TWJ.pt (tw_or (t_not (t_val (e_call C (ok__law_balance_judged G) (a_consp (e_var 3) (a_consp (e_var 4) (a_consp (e_var 5) a_nil)))))) (tw_or1 (t_not (t_val (e_call C (ok__law_times_counted G) (a_consp (e_var 3) (a_consp (e_var 4) (a_consp (e_var 5) (a_consp (e_var 7) a_nil)))))))))) (r_ret e_bool) (r_if (TWJ.pt (tw_or (t_not (t_val (e_call C (ok__law_twice G) (a_consp (e_var 3) (a_consp (e_var 4) (a_consp (e_var 5) (a_consp (e_var 7) (a_consp (e_var 6) a_nil)))))))) (tw_or1 (t_not (t_val (e_call C (ok__law_twice G) (a_consp (e_var 3) (a_consp (e_var 4) (a_consp (e_var 5) (a_consp (e_var 7) (a_cons (e_mod (e_int1m (e_ixp (EG.lg (e_var 1)) e_int) G.n_int) (e_lenl (EG.lg (e_var 4)) G.n_len)) fun a15 => a_nil))))))))))) (r_ret e_bool) (r_if (TWJ.pt (tw_or (t_not (t_val (e_call C (ok__law_says_more G) (a_consp (e_var 3) (a_consp (e_var 4) (a_consp (e_var 5) (a_consp (e_var 6) a_nil))))))) (tw_or1 (t_not (t_val (e_call C (ok__law_each_unknown G) (a_consp (e_var 3) (a_consp (e_var 4) (a_consp (e_var 5) (a_consp (e_var 6) a_nil)))))))))) (r_ret e_bool) (r_cons (n_set 8 (n3 := fun fitting19 => [.val Scr script, .val (List Int) shape1, .val (T4 Int (List (Str × (Tup Int))) (List Int) Int) system2, .val Int count3, .val (List (Str × (Tup Int))) lines4, .val (List Int) times5, .val Int place6, .val Int at'7, .val (T4 Int (List (Str × (Tup Int))) (List Int) (List (Str × (Tup Int)))) fitting19]) C.nd (e_call C (ok__law_fitting G) (a_consp (e_var 0) (a_consp (e_var 1) a_nil)))) fun fitting19 => (r_cons (n_set 7 (n3 := fun at'20 => [.val Scr script, .val (List Int) shape1, .val (T4 Int (List (Str × (Tup Int))) (List Int) Int) system2, .val Int count3, .val (List (Str × (Tup Int))) lines4, .val (List Int) times5, .val Int place6, .val Int at'20, .val (T4 Int (List (Str × (Tup Int))) (List Int) (List (Str × (Tup Int)))) fitting19]) C.nd (e_mod (e_int1m (e_ixp (EG.lg (e_var 1)) e_int) G.n_int) (e_addp (e_lenl (EG.lg (e_plp (j := 1) (f := fun (x : (T4 Int (List (Str × (Tup Int))) (List Int) (List (Str × (Tup Int))))) => x.b) (e_var 8))) G.n_len) e_int))) fun at'20 => (r_ret (e_call C (ok__law_fit_right G) (a_consp (e_plp (j := 0) (f := fun (x : (T4 Int (List (Str × (Tup Int))) (List Int) (List (Str × (Tup Int))))) => x.a) (e_var 8)) (a_consp (e_plp (j := 1) (f := fun (x : (T4 Int (List (Str × (Tup Int))) (List Int) (List (Str × (Tup Int))))) => x.b) (e_var 8)) (a_consp (e_plp (j := 2) (f := fun (x : (T4 Int (List (Str × (Tup Int))) (List Int) (List (Str × (Tup Int))))) => x.c) (e_var 8)) (a_consp (e_plp (j := 3) (f := fun (x : (T4 Int (List (Str × (Tup Int))) (List Int) (List (Str × (Tup Int))))) => x.d) (e_var 8)) (a_consp (e_var 7) a_nil)))))))))))))))))))
def m_law (script : Scr) : Res Bool :=
  (Res.bind (Res.bind (m__law_each_line script) fun x1 => Res.ok (!x1)) fun k2 => if k2 then (Res.ok false) else (m__law_each_judge script))
abbrev s_law : Stmt := topS 34
theorem sc_law : FnScope ["script"] ["script"] (defScope s_law) := ⟨rfl, rfl, rfl, by decide +kernel, rfl, by decide +kernel, by decide +kernel⟩
theorem okL_law {P : Program} {w : World} {K : PySem.W.Frag} {mg : Str → Option Value} (G : Fx P K mg) : ∃ fd, (∀ (s : Shared) (u : Value), BindsTo s fd ⟨[u], []⟩ [("script", u)]) ∧ ∀ base : Heap, FnOk P w K mg base (L2N.CX P w) 14 (He.ga K "law") fd ["script"] (spOf K (asC (T := Scr) asN) (fun u : Scr × Unit => m_law u.1)) := by
  obtain ⟨fd, F⟩ := G.d_law
  have b := FunD.bindsA (ps := ["script"]) F fun _ _ _ _ _ _ us hl => match us, hl with | [_], _ => rfl
  refine ⟨fd, fun s v => b s [v] rfl, fun base => ?_⟩
  refine fn_data (ρ0 := fun u : Scr × Unit => [.val Scr u.1]) F sc_law (by intro _; rfl) (by intro _; rfl) fun cdv A outer s H E C => ?_
  rintro ⟨script, ⟨⟩⟩
  show SR _ _ none [.val Scr script] _ (retD Bool) (m_law script)
  unfold m_law
  exact (r_if (t_not (t_val (e_call C (ok__law_each_line G) (a_consp (e_var 0) a_nil)))) (r_ret e_bool) (r_ret (e_call C (ok__law_each_judge G) (a_consp (e_var 0) a_nil))))
end Lw

set_option Elab.async false
set_option linter.all false
set_option maxRecDepth 100000
set_option maxHeartbeats 1000000
namespace Law
open PySem PySem.Spec L2 Py Lw
theorem cell_ok {s : Scr} {k : Int} (hk : 0 ≤ k) : Ok (m__law_cell s k) fun _ => True := by
  unfold m__law_cell
  simp only [bok]
  by_cases h : k < (s.ns.length : Int)
  · rw [if_pos (decide_eq_true h), idx_ok hk h]; trivial
  · rw [if_neg (by simpa using h)]
    by_cases h0 : 0 < (s.ns.length : Int)
    · rw [if_pos (decide_eq_true h0), mod_pos h0]
      simp only [bok]
      rw [idx_ok (Int.emod_nonneg _ (by omega)) (Int.emod_lt_of_pos _ h0), mul_l (by decide)]
      trivial
    · rw [if_neg (by simpa using h0)]; trivial
theorem many_ok {s : Scr} {k many limit : Int} (hk : 0 ≤ k) (hk2 : k < 4294967296) (hm0 : 0 ≤ many) (hm : many ≤ 1000000) (hl : 0 < limit) (hl2 : limit < 4294967296) :
    Ok (m__law_many s k many limit) fun xs => xs.length = many.toNat ∧ ∀ x ∈ xs, 0 ≤ x ∧ x < limit := by
  unfold m__law_many
  refine wp (cell_ok hk) fun cell _ => ?_
  simp only [bok]
  rw [guardR_ok (inRange_of (by omega) (by omega))]
  simp only [bok]
  refine wp (P := fun r : Int × List Int => r.2.length = many.toNat ∧ ∀ x ∈ r.2, 0 ≤ x ∧ x < limit) ?_ fun r h => h
  have hlen : (rng 0 many).length = many.toNat := by rw [rng_length]; congr 1; omega
  rw [← hlen]
  refine (forR_wp (I := fun d (r : Int × List Int) => 0 ≤ r.1 ∧ r.2.length = d.length ∧ ∀ x ∈ r.2, 0 ≤ x ∧ x < limit) (done := []) ⟨by show (0 : Int) ≤ (cell.natAbs : Int); omega, rfl, by intro x hx; cases hx⟩ ?_).mono fun r h => ⟨by simpa using h.2.1, h.2.2⟩
  rintro d x r ⟨left, found⟩ e ⟨h1, h2, h3⟩
  have hx := rng_mem (lo := 0) (hi := many) (x := x) (by have e2 : rng 0 many = d ++ x :: r := e; rw [e2]; simp)
  have hd : d.length < sizeLine := by
    have e2 : rng 0 many = d ++ x :: r := e
    have := congrArg List.length e2
    rw [hlen, List.length_append, List.length_cons] at this
    show d.length < 16777216
    omega
  have hf : found.length < sizeLine := by have : found.length = d.length := h2; omega
  have fin : ∀ (l y : Int), 0 ≤ l → 0 ≤ y → y < limit → Ok (Res.ok (l, found ++ [y])) fun s' : Int × List Int => 0 ≤ s'.1 ∧ s'.2.length = (d ++ [x]).length ∧ ∀ x ∈ s'.2, 0 ≤ x ∧ x < limit := by
    intro l y hl0 hy0 hy1
    refine ⟨hl0, ?_, fun z hz => ?_⟩
    · show (found ++ [y]).length = _
      rw [List.length_append, List.length_append]
      have : found.length = d.length := h2
      rw [this]; rfl
    · rcases List.mem_append.mp hz with h | h
      · exact h3 z h
      · cases List.mem_singleton.mp h; exact ⟨hy0, hy1⟩
  have p18 : powM 10 18 = .ok 1000000000000000000 := rfl
  rw [p18]
  simp only [bok, andM_ok]
  split
  · rw [mod_pos hl]
    simp only [bok]
    rw [apn_ok hf]
    simp only [bok]
    rw [div_s hl hl2]
    exact fin _ _ (Int.ediv_nonneg h1 (by omega)) (Int.emod_nonneg _ (by omega)) (Int.emod_lt_of_pos _ hl)
  · rw [mul_r (x := cell) (by decide), mul_l (x := x) (by omega), mul_l (x := 17) (by decide)]
    simp only [bok]
    rw [mod_pos (by decide)]
    simp only [bok]
    generalize hA : (cell * 48271 + x * 69621 + 17 * k + 11) % 2147483647 = A
    have a1 : 0 ≤ A := by rw [← hA]; exact Int.emod_nonneg _ (by decide)
    have a2 : A < 2147483647 := by rw [← hA]; exact Int.emod_lt_of_pos _ (by decide)
    rw [mul_l (x := A) (by omega), mul_l (x := x) (by omega)]
    simp only [bok]
    rw [mod_pos (by decide)]
    simp only [bok]
    generalize hB : (A * A + x * 40692 + 3) % 2147483399 = B
    have b1 : 0 ≤ B := by rw [← hB]; exact Int.emod_nonneg _ (by decide)
    have b2 : B < 2147483399 := by rw [← hB]; exact Int.emod_lt_of_pos _ (by decide)
    rw [mul_l (x := B) (by omega), mul_l (x := x) (by omega)]
    simp only [bok]
    rw [mod_pos (by decide)]
    simp only [bok]
    rw [div_s (by decide) (by decide)]
    simp only [bok]
    rw [mod_pos hl]
    simp only [bok]
    rw [apn_ok hf]
    exact fin _ _ h1 (Int.emod_nonneg _ (by omega)) (Int.emod_lt_of_pos _ hl)
theorem says_refl (b : Bool) : m__law_says b b = .ok true := by cases b <;> rfl
theorem alike_refl (n : Nat) : ∀ d : PyData, Dsh n d → m__law_alike_r n ⟨d⟩ ⟨d⟩ = .ok true := by
  induction n with
  | zero => intro d h; exact h.elim
  | succ n ih =>
    intro d h
    cases d with
    | none => rfl
    | bool b => exact says_refl b
    | int i =>
      show andM (m__law_is_whole ⟨.int i⟩) (eqvD ⟨.int i⟩ ⟨.int i⟩) = _
      rw [eqvD_int]; rfl
    | str i =>
      show andM (.ok true) (eqvD ⟨.str i⟩ ⟨.str i⟩) = _
      rw [eqvD_str h]; rfl
    | list xs =>
      obtain ⟨h1, h2⟩ := h
      rw [lenCap_eq] at h1
      rw [m__law_alike_r]
      have e : (Len.len (PD.mk (.list xs)) : Res Int) = .ok (xs.length : Int) := rfl
      have e1 : isTup (PD.mk (.list xs)) = false := rfl
      have e2 : isLst (PD.mk (.list xs)) = true := rfl
      rw [e1, e2, e]
      simp only [bok, Bool.or_true, if_true, decide_true, Bool.not_true, Bool.or_self, Bool.false_eq_true, if_false]
      rw [guardR_ok (inRange_of (by omega) (by omega))]
      simp only [bok]
      rw [forC_look]
      · rfl
      · intro at' ha
        have hx := rng_mem ha
        rw [idxD_list hx.1 hx.2]
        simp only [bok]
        rw [ih _ (h2 _ (List.getElem_mem _))]
        rfl
    | tuple xs =>
      obtain ⟨h1, h2⟩ := h
      rw [lenCap_eq] at h1
      rw [m__law_alike_r]
      have e : (Len.len (PD.mk (.tuple xs)) : Res Int) = .ok (xs.length : Int) := rfl
      have e1 : isTup (PD.mk (.tuple xs)) = true := rfl
      have e2 : isLst (PD.mk (.tuple xs)) = false := rfl
      rw [e1, e2, e]
      simp only [bok, Bool.or_true, Bool.or_false, if_true, decide_true, Bool.not_true, Bool.or_self, Bool.false_eq_true, if_false]
      rw [guardR_ok (inRange_of (by omega) (by omega))]
      simp only [bok]
      rw [forC_look]
      · rfl
      · intro at' ha
        have hx := rng_mem ha
        rw [idxD_tup hx.1 hx.2]
        simp only [bok]
        rw [ih _ (h2 _ (List.getElem_mem _))]
        rfl
    | _ => exact h.elim
theorem alike_int (i : Int) : m__law_alike ⟨.int i⟩ ⟨.int i⟩ = .ok true := alike_refl 8 _ trivial
/-! ### lines -/
def B0 : Nat := 18446744073709551616
def SG (s : Str) : Prop := s = Str.ofString ">" ∨ s = Str.ofString ">=" ∨ s = Str.ofString "="
theorem sg_ok {s : Str} (h : SG s) : PySem.PyData.strOk s = true := by
  rcases h with rfl | rfl | rfl <;> decide +kernel
def Sm (l : List Int) : Prop := ∀ x ∈ l, x.natAbs < 18446744073709551616
structure LnOk (c : Nat) (ln : Str × Tup Int) : Prop where
  sg : SG ln.1
  len : ln.2.l.length = c
  sm : Sm ln.2.l
structure Ls (c n : Nat) (lines : List (Str × Tup Int)) : Prop where
  len : lines.length ≤ n
  ln : ∀ x ∈ lines, LnOk c x
def dot (r ns : List Int) : Int := ((r.zip ns).map fun v => v.1 * v.2).sum
def tr (s : Str) (a : Int) : Bool := if s = Str.ofString ">" then decide (0 < a) else if s = Str.ofString ">=" then decide (0 ≤ a) else decide (a = 0)
theorem value_ok {t : Bool} {r ns : List Int} (h : Sm r) (hl : r.length ≤ 100000) : m_value ⟨t, r⟩ ns = .ok (dot r ns) := by
  unfold m_value
  simp only [bok]
  rw [lcX_ok (g := fun v => v.1 * v.2) (by rw [List.length_zip, sizeLine_eq]; omega) fun v hv => mul_l (h _ (List.of_mem_zip hv).1)]
  rfl
theorem lvalue_ok {t : Bool} {r ns : List Int} (h : Sm r) (hl : r.length ≤ 100000) (hn : r.length ≤ ns.length) : m__law_value ⟨t, r⟩ ns = .ok (dot r ns) := by
  unfold m__law_value
  dsimp only
  rw [guardR_ok (inRange_of (by omega) (by omega))]
  simp only [bok]
  rw [lcX_ok (g := fun i => at0 r i * at0 ns i) (by rw [rng_len, sizeLine_eq]; omega) fun i hi => by
    have hx := rng_mem hi
    rw [idx0 hx.1 (by omega), idx0 hx.1 (by omega)]
    simp only [bok]
    exact mul_l (h _ (at0_mem hx.1 (by omega)))]
  simp only [bok]
  rw [rng_zip r ns hn fun x y => x * y]
  rfl
theorem holds_ok {s : Str} {t : Bool} {r ns : List Int} (h : Sm r) (hl : r.length ≤ 100000) : m_holds (s, ⟨t, r⟩) ns = .ok (tr s (dot r ns)) := by
  unfold m_holds
  rw [value_ok h hl]
  simp only [bok, tr, decide_eq_true_eq]
  split
  · rfl
  · split <;> rfl
theorem true_ok (s : Str) (a : Int) : m__law_true s a = .ok (tr s a) := by
  unfold m__law_true tr
  simp only [decide_eq_true_eq]
  split
  · rfl
  · split <;> rfl
theorem eqD_refl {T : Type} [Rp T] [Dat T] {x : T} (h : Dat.ok x = true) : eqD x x = .ok true := by
  unfold eqD
  rw [h, (Dat.iff x x).mpr rfl]
  rfl
theorem lines_dat {c n : Nat} {lines : List (Str × Tup Int)} (h : Ls c n lines) : eqD lines lines = .ok true := by
  refine eqD_refl (List.all_eq_true.mpr fun x hx => ?_)
  show (PySem.PyData.strOk x.1 && Dat.ok x.2) = true
  rw [sg_ok (h.ln x hx).sg, DatT.ok x.2]
  rfl
def fitB (c : Int) (lines : List (Str × Tup Int)) (ns : List Int) : Bool := decide ((ns.length : Int) = c) && lines.all fun ln => tr ln.1 (dot ln.2.l ns)
theorem fits_ok {c n : Nat} {lines : List (Str × Tup Int)} {ns : List Int} (h : Ls c n lines) (hn : n ≤ 1000) (hc : c ≤ 1000) : m_fits (c : Int) lines ns = .ok (fitB c lines ns) := by
  unfold m_fits
  simp only [bok]
  have hl := h.len
  rw [lcX_ok (g := fun ln => tr ln.1 (dot ln.2.l ns)) (by rw [sizeLine_eq]; omega) fun ln hln => holds_ok (h.ln _ hln).sm (by rw [(h.ln _ hln).len]; omega)]
  simp only [bok, andM_ok]
  rw [List.all_map]
  rfl
theorem filter_len (p : (Str × Tup Int) → Bool) (lines : List (Str × Tup Int)) : decide (((lines.filter fun x => !p x).length : Int) = 0) = lines.all p := by
  induction lines with
  | nil => rfl
  | cons x r ih =>
    rw [List.all_cons, List.filter_cons]
    cases hp : p x with
    | true => simpa using ih
    | false => simp; omega
theorem lfits_ok {c n : Nat} {lines : List (Str × Tup Int)} {ns : List Int} (h : Ls c n lines) (hn : n ≤ 1000) (hc : c ≤ 1000) : m__law_fits (c : Int) lines ns = .ok (fitB c lines ns) := by
  unfold m__law_fits fitB
  by_cases e : (ns.length : Int) = c
  · rw [decide_eq_true e]
    simp only [Bool.not_true, Bool.false_eq_true, if_false, bok, Bool.true_and]
    have hl := h.len
    rw [lcX_id (p := fun ln => !tr ln.1 (dot ln.2.l ns)) (by rw [sizeLine_eq]; omega) fun ln hln => by
      rw [lvalue_ok (h.ln _ hln).sm (by rw [(h.ln _ hln).len]; omega) (by rw [(h.ln _ hln).len]; omega)]
      simp only [bok]
      rw [true_ok]
      simp only [bok]]
    simp only [bok]
    show Res.bind (Res.ok (((lines.filter fun ln => !tr ln.1 (dot ln.2.l ns)).length : Int))) _ = _
    simp only [bok]
    rw [filter_len]
  · rw [decide_eq_false e]
    rfl
theorem fit_judged {c n : Nat} {lines : List (Str × Tup Int)} {ns : List Int} (h : Ls c n lines) (hn : n ≤ 1000) (hc : c ≤ 1000) : m__law_fit_judged (c : Int) lines ns = .ok true := by
  unfold m__law_fit_judged
  simp only [bok]
  rw [lfits_ok h hn hc]
  simp only [bok]
  rw [fits_ok h hn hc]
  simp only [bok]
  rw [says_refl, lines_dat h, (Dat.iff ns ns).mpr rfl]
  rfl
/-! ### balances -/
def badT (v : (Str × Tup Int) × Int) : Bool := decide (v.2 < 0) && !decide (v.1.1 = Str.ofString "=")
def moreT (v : (Str × Tup Int) × Int) : Bool := decide (0 < v.2) && decide (v.1.1 = Str.ofString ">")
def col (lines : List (Str × Tup Int)) (times : List Int) (k : Int) : Int := ((lines.zip times).map fun v => at0 v.1.2.l k * v.2).sum
def balB (c : Int) (lines : List (Str × Tup Int)) (times : List Int) : Bool :=
  if (times.length : Int) = (lines.length : Int) then
    if (lines.zip times).any badT then false else if (rng 0 c).any fun k => !decide (col lines times k = 0) then false else (lines.zip times).any moreT
  else false
theorem fold_or {α : Type} (p : α → Bool) (xs : List α) (b : Bool) : xs.foldl (fun r v => if p v then true else r) b = (b || xs.any p) := by
  induction xs generalizing b with
  | nil => simp
  | cons x r ih => rw [List.foldl_cons, ih, List.any_cons]; cases p x <;> cases b <;> simp
theorem balances_ok {c n : Nat} {lines : List (Str × Tup Int)} {times : List Int} (h : Ls c n lines) (hn : n ≤ 1000) (hc : c ≤ 1000) : m_balances (c : Int) lines times = .ok (balB c lines times) := by
  unfold m_balances balB
  have hl := h.len
  by_cases e : (times.length : Int) = (lines.length : Int)
  · rw [decide_eq_true e, if_pos e]
    simp only [Bool.not_true, Bool.false_eq_true, if_false, bok]
    rw [forC_ret (p := badT) (g := fun r v => if moreT v then true else r) (v := false) (fun r v hv => by
      show (if badT v = true then _ else _) = _
      cases badT v with
      | true => rfl
      | false =>
        simp only [Bool.false_eq_true, if_false]
        show Res.bind (if moreT v = true then _ else _) _ = _
        cases moreT v <;> rfl)]
    rw [thenR_if, guardR_ok (inRange_of (by omega) (by omega))]
    simp only [bok]
    split
    · rfl
    · rw [forC_ret (p := fun k => !decide (col lines times k = 0)) (g := fun _ _ => ()) (v := false) (fun r k hk => by
        have hx := rng_mem hk
        rw [lcX_ok (g := fun v => at0 v.1.2.l k * v.2) (by rw [List.length_zip, sizeLine_eq]; omega) fun v hv => by
          have hm := h.ln _ (List.of_mem_zip hv).1
          rw [idx0 hx.1 (by rw [hm.len]; omega)]
          simp only [bok]
          exact mul_l (hm.sm _ (at0_mem hx.1 (by rw [hm.len]; omega)))]
        simp only [bok]
        show (if (!decide (col lines times k = 0)) = true then _ else _) = _
        cases (!decide (col lines times k = 0)) <;> rfl)]
      rw [thenR_if, fold_or]
      cases (rng 0 (c : Int)).any fun k => !decide (col lines times k = 0) <;> simp
  · rw [decide_eq_false e, if_neg e]
    rfl
theorem fold_cnt {α : Type} (p : α → Bool) (xs : List α) (b : Int) (hb : 0 ≤ b) : decide (0 < xs.foldl (fun r v => if p v then r + 1 else r) b) = (decide (0 < b) || xs.any p) := by
  induction xs generalizing b with
  | nil => rw [List.any_nil, Bool.or_false]; rfl
  | cons x r ih =>
    rw [List.foldl_cons, List.any_cons]
    cases hp : p x with
    | true =>
      simp only [if_true]
      rw [ih _ (by omega), decide_eq_true (show 0 < b + 1 by omega)]; simp
    | false => simp only [Bool.false_eq_true, if_false]; rw [ih b hb]; simp
instance : Inhabited (Str × Tup Int) := ⟨(Str.ofString "", ⟨[]⟩)⟩
theorem any_rng {α β : Type} [Inhabited α] [Inhabited β] (xs : List α) (ys : List β) (h : xs.length ≤ ys.length) (p : α × β → Bool) : (rng 0 (xs.length : Int)).any (fun i => p (at0 xs i, at0 ys i)) = (xs.zip ys).any p := by
  have e := rng_zip xs ys h fun x y => p (x, y)
  have e2 := congrArg (fun l : List Bool => l.any id) e
  simpa [List.any_map, Function.comp_def] using e2
theorem fold_rng {α β σ : Type} [Inhabited α] [Inhabited β] (xs : List α) (ys : List β) (h : xs.length ≤ ys.length) (f : σ → α × β → σ) (s : σ) : (rng 0 (xs.length : Int)).foldl (fun r i => f r (at0 xs i, at0 ys i)) s = (xs.zip ys).foldl f s := by
  have e := rng_zip xs ys h fun x y => (x, y)
  have e2 := congrArg (fun l : List (α × β) => l.foldl f s) e
  simpa [List.foldl_map, Function.comp_def] using e2
theorem lbalances_ok {c n : Nat} {lines : List (Str × Tup Int)} {times : List Int} (h : Ls c n lines) (hn : n ≤ 1000) (hc : c ≤ 1000) : m__law_balances (c : Int) lines times = .ok (balB c lines times) := by
  unfold m__law_balances balB
  have hl := h.len
  by_cases e : (times.length : Int) = (lines.length : Int)
  · rw [decide_eq_true e, if_pos e]
    have e' : lines.length ≤ times.length := by omega
    simp only [Bool.not_true, Bool.false_eq_true, if_false, bok]
    rw [guardR_ok (inRange_of (by omega) (by omega)), guardR_ok (inRange_of (by omega) (by omega))]
    simp only [bok]
    rw [forC_ret (p := fun i => badT (at0 lines i, at0 times i)) (g := fun r i => if moreT (at0 lines i, at0 times i) then r + 1 else r) (v := false) (fun r i hi => by
      have hx := rng_mem hi
      rw [idx0 hx.1 (show i < (times.length : Int) by omega), idx0 hx.1 (show i < (lines.length : Int) by omega)]
      simp only [bok, andM_ok]
      show (if badT (at0 lines i, at0 times i) = true then _ else Res.bind (if moreT (at0 lines i, at0 times i) = true then _ else _) _) = _
      cases badT (at0 lines i, at0 times i) with
      | true => rfl
      | false => cases moreT (at0 lines i, at0 times i) <;> rfl)]
    rw [thenR_if, any_rng _ _ e']
    split
    · rfl
    · rw [fold_rng _ _ e' (fun r v => if moreT v then r + 1 else r)]
      rw [forC_ret (p := fun k => !decide (col lines times k = 0)) (g := fun _ _ => ()) (v := false) (fun r k hk => by
        have hx := rng_mem hk
        rw [lcX_ok (g := fun i => at0 (at0 lines i).2.l k * at0 times i) (by rw [rng_len, sizeLine_eq]; omega) fun i hi => by
          have hy := rng_mem hi
          have hm := h.ln _ (at0_mem (xs := lines) hy.1 hy.2)
          rw [idx0 hy.1 (show i < (times.length : Int) by omega), idx0 hy.1 (show i < (lines.length : Int) by omega)]
          simp only [bok]
          rw [idx0 hx.1 (by rw [hm.len]; omega)]
          simp only [bok]
          exact mul_l (hm.sm _ (at0_mem hx.1 (by rw [hm.len]; omega)))]
        simp only [bok]
        rw [rng_zip lines times e' fun x y => at0 x.2.l k * y]
        show (if (!decide (col lines times k = 0)) = true then _ else _) = _
        cases (!decide (col lines times k = 0)) <;> rfl)]
      rw [thenR_if, fold_cnt _ _ _ (by omega)]
      cases (rng 0 (c : Int)).any fun k => !decide (col lines times k = 0) <;> simp
  · rw [decide_eq_false e, if_neg e]
    rfl
theorem bal_judged {c n : Nat} {lines : List (Str × Tup Int)} {ts : List Int} (h : Ls c n lines) (hn : n ≤ 1000) (hc : c ≤ 1000) : m__law_balance_judged (c : Int) lines ts = .ok true := by
  unfold m__law_balance_judged
  simp only [bok]
  rw [lbalances_ok h hn hc]
  simp only [bok]
  rw [balances_ok h hn hc]
  simp only [bok]
  rw [says_refl, lines_dat h, (Dat.iff ts ts).mpr rfl]
  rfl
/-! ### contraries -/
def neg (l : List Int) : List Int := l.map fun x => -x
theorem neg_len (l : List Int) : (neg l).length = l.length := List.length_map ..
theorem neg_sm {l : List Int} (h : Sm l) : Sm (neg l) := fun x hx => by
  obtain ⟨y, hy, rfl⟩ := List.mem_map.mp hx
  rw [Int.natAbs_neg]
  exact h y hy
theorem dot_neg (r ns : List Int) : dot (neg r) ns = - dot r ns := by
  unfold dot neg
  induction r generalizing ns with
  | nil => rfl
  | cons x r ih =>
    cases ns with
    | nil => rfl
    | cons y ns =>
      simp only [List.map_cons, List.zip_cons_cons, List.sum_cons, ih]
      rw [Int.neg_mul]
      omega
def contr (s : Str) (l : List Int) : List (Str × Sq Int) :=
  if s = Str.ofString ">" then [(Str.ofString ">=", ⟨true, neg l⟩)] else if s = Str.ofString ">=" then [(Str.ofString ">", ⟨true, neg l⟩)] else [(Str.ofString ">", ⟨true, l⟩), (Str.ofString ">", ⟨true, neg l⟩)]
theorem contr_ok {s : Str} {t : Bool} {l : List Int} (h : l.length ≤ 100000) : m_contraries (s, ⟨t, l⟩) = .ok (contr s l) := by
  unfold m_contraries
  simp only [bok]
  rw [lcX_ok (g := fun x => -x) (by rw [sizeLine_eq]; omega) fun x hx => rfl]
  simp only [bok, contr, decide_eq_true_eq]
  split
  · rfl
  · split <;> rfl
theorem turned_ok {l : List Int} (h : l.length ≤ 100000) : m__law_turned l = .ok ⟨neg l⟩ := by
  unfold m__law_turned
  simp only [bok]
  rw [lcX_ok (g := fun x => -x) (by rw [sizeLine_eq]; omega) fun x hx => rfl]
  simp only [bok, neg]
theorem lcontr_ok {s : Str} {l : List Int} (h : l.length ≤ 100000) : m__law_contraries s l = .ok (contr s l) := by
  unfold m__law_contraries
  simp only [turned_ok h, bok, contr, decide_eq_true_eq]
  split
  · rfl
  · split <;> rfl
theorem dsh_ints {n : Nat} {l : List Int} (h : l.length < lenCap) : ∀ x ∈ l, Dsh (n + 1) (Dat.toD x) := fun _ _ => trivial
theorem dsh_sq {n : Nat} {t : Bool} {l : List Int} (h : l.length < lenCap) : Dsh (n + 2) (Dat.toD (Sq.mk t l)) := by
  cases t with
  | true => exact dsh_tup (xs := Tup.mk l) h fun _ _ => trivial
  | false => exact dsh_list h fun _ _ => trivial
theorem dsh_contr {s : Str} {l : List Int} (h : l.length ≤ 1000) : Dsh 8 (Dat.toD (contr s l)) := by
  have h1 : l.length < lenCap := by rw [lenCap_eq]; omega
  have h2 : (neg l).length < lenCap := by rw [neg_len]; exact h1
  have g1 : ∀ (z : Str) (u : List Int), PySem.PyData.strOk z = true → u.length < lenCap → Dsh 7 (Dat.toD ((z, Sq.mk true u) : Str × Sq Int)) := fun z u hz hu => dsh_pair (p := (z, Sq.mk true u)) hz (dsh_sq hu)
  have k1 : PySem.PyData.strOk (Str.ofString ">") = true := by decide +kernel
  have k2 : PySem.PyData.strOk (Str.ofString ">=") = true := by decide +kernel
  unfold contr
  split
  · exact dsh_list (by rw [lenCap_eq]; simp) fun x hx => by cases List.mem_singleton.mp hx; exact g1 _ _ k2 h2
  · split
    · exact dsh_list (by rw [lenCap_eq]; simp) fun x hx => by cases List.mem_singleton.mp hx; exact g1 _ _ k1 h2
    · refine dsh_list (by rw [lenCap_eq]; simp) fun x hx => ?_
      rcases List.mem_cons.mp hx with rfl | hx
      · exact g1 _ _ k1 h1
      · cases List.mem_singleton.mp hx; exact g1 _ _ k1 h2
theorem alike_contr {s : Str} {l : List Int} (h : l.length ≤ 1000) : m__law_alike (PD.mk (Dat.toD (contr s l))) (PD.mk (Dat.toD (contr s l))) = .ok true := alike_refl 8 _ (dsh_contr h)
theorem qok {α : Type} (a : α) : (Res.ok a).quiet = .ok a := by
  have h : ∀ m : Res α, m = .ok a → m.quiet = .ok a := by intro m h; subst h; rfl
  exact h _ rfl
theorem contr_head (s : Str) (l : List Int) : ∃ s0 l0 r, contr s l = (s0, Sq.mk true l0) :: r ∧ l0.length = l.length ∧ r.length ≤ 1 := by
  unfold contr
  split
  · exact ⟨_, _, [], rfl, neg_len l, by simp⟩
  · split
    · exact ⟨_, _, [], rfl, neg_len l, by simp⟩
    · exact ⟨_, _, _, rfl, rfl, by simp⟩
theorem told_ok {s : Str} {t : Bool} {l : List Int} (h : l.length ≤ 1000) : m__law_told (s, ⟨t, l⟩) (contr s l) = .ok true := by
  unfold m__law_told
  simp only [contr_ok (show l.length ≤ 100000 by omega), bok, alike_contr h, qok, Bool.not_true, Bool.false_eq_true, if_false]
  obtain ⟨s0, l0, r, e, e1, e2⟩ := contr_head s l
  rw [apn_ok (by rw [e, sizeLine_eq]; simp; omega)]
  simp only [bok]
  rw [e]
  have i0 : idxM ((s0, Sq.mk true l0) :: r) 0 = .ok (s0, Sq.mk true l0) := by rw [idx_ok (by omega) (by simp)]; rfl
  simp only [i0, bok]
  rw [lcontr_ok (by omega), contr_ok (by omega)]
  simp only [bok]
  exact alike_contr (by omega)
theorem tr_gt (a : Int) : tr (Str.ofString ">") a = decide (0 < a) := if_pos rfl
theorem tr_ge (a : Int) : tr (Str.ofString ">=") a = decide (0 ≤ a) := by
  unfold tr
  rw [if_neg (by decide +kernel), if_pos rfl]
theorem tr_eq (a : Int) : tr (Str.ofString "=") a = decide (a = 0) := by
  unfold tr
  rw [if_neg (by decide +kernel), if_neg (by decide +kernel)]
theorem contr_gt (l : List Int) : contr (Str.ofString ">") l = [(Str.ofString ">=", ⟨true, neg l⟩)] := if_pos rfl
theorem contr_ge (l : List Int) : contr (Str.ofString ">=") l = [(Str.ofString ">", ⟨true, neg l⟩)] := by
  unfold contr
  rw [if_neg (by decide +kernel), if_pos rfl]
theorem contr_eq (l : List Int) : contr (Str.ofString "=") l = [(Str.ofString ">", ⟨true, l⟩), (Str.ofString ">", ⟨true, neg l⟩)] := by
  unfold contr
  rw [if_neg (by decide +kernel), if_neg (by decide +kernel)]
/-- one of a line and its contraries is held -/
theorem one_held {s : Str} (hs : SG s) (t : Bool) (l ns : List Int) : ((s, Sq.mk t l) :: contr s l).foldl (fun (r : Int) (o : Str × Sq Int) => if tr o.1 (dot o.2.l ns) then r + 1 else r) 0 = 1 := by
  have step : ∀ (a : Int), a < 0 ∨ a = 0 ∨ 0 < a := fun a => by omega
  rcases hs with rfl | rfl | rfl
  · rw [contr_gt]
    simp only [List.foldl_cons, List.foldl_nil, tr_gt, tr_ge, tr_eq, dot_neg]
    rcases step (dot l ns) with h | h | h
    · have q0 : ¬ (0 < dot l ns) := by omega
      have q1 : 0 ≤ - dot l ns := by omega
      simp only [q0, q1, decide_true, decide_false, if_true, if_false, Bool.false_eq_true]
      rfl
    · have q0 : ¬ (0 < dot l ns) := by omega
      have q1 : 0 ≤ - dot l ns := by omega
      simp only [q0, q1, decide_true, decide_false, if_true, if_false, Bool.false_eq_true]
      rfl
    · have q0 : 0 < dot l ns := by omega
      have q1 : ¬ (0 ≤ - dot l ns) := by omega
      simp only [q0, q1, decide_true, decide_false, if_true, if_false, Bool.false_eq_true]
      rfl
  · rw [contr_ge]
    simp only [List.foldl_cons, List.foldl_nil, tr_gt, tr_ge, tr_eq, dot_neg]
    rcases step (dot l ns) with h | h | h
    · have q0 : ¬ (0 ≤ dot l ns) := by omega
      have q1 : 0 < - dot l ns := by omega
      simp only [q0, q1, decide_true, decide_false, if_true, if_false, Bool.false_eq_true]
      rfl
    · have q0 : 0 ≤ dot l ns := by omega
      have q1 : ¬ (0 < - dot l ns) := by omega
      simp only [q0, q1, decide_true, decide_false, if_true, if_false, Bool.false_eq_true]
      rfl
    · have q0 : 0 ≤ dot l ns := by omega
      have q1 : ¬ (0 < - dot l ns) := by omega
      simp only [q0, q1, decide_true, decide_false, if_true, if_false, Bool.false_eq_true]
      rfl
  · rw [contr_eq]
    simp only [List.foldl_cons, List.foldl_nil, tr_gt, tr_ge, tr_eq, dot_neg]
    rcases step (dot l ns) with h | h | h
    · have q0 : ¬ (dot l ns = 0) := by omega
      have q1 : ¬ (0 < dot l ns) := by omega
      have q2 : 0 < - dot l ns := by omega
      simp only [q0, q1, q2, decide_true, decide_false, if_true, if_false, Bool.false_eq_true]
      rfl
    · have q0 : dot l ns = 0 := by omega
      have q1 : ¬ (0 < dot l ns) := by omega
      have q2 : ¬ (0 < - dot l ns) := by omega
      simp only [q0, q1, q2, decide_true, decide_false, if_true, if_false, Bool.false_eq_true]
      rfl
    · have q0 : ¬ (dot l ns = 0) := by omega
      have q1 : 0 < dot l ns := by omega
      have q2 : ¬ (0 < - dot l ns) := by omega
      simp only [q0, q1, q2, decide_true, decide_false, if_true, if_false, Bool.false_eq_true]
      rfl
theorem contr_all {s : Str} {l : List Int} (h : Sm l) : ∀ o ∈ contr s l, Sm o.2.l ∧ o.2.l.length = l.length := by
  intro o ho
  unfold contr at ho
  split at ho
  · cases List.mem_singleton.mp ho; exact ⟨neg_sm h, neg_len l⟩
  · split at ho
    · cases List.mem_singleton.mp ho; exact ⟨neg_sm h, neg_len l⟩
    · rcases List.mem_cons.mp ho with rfl | ho
      · exact ⟨h, rfl⟩
      · cases List.mem_singleton.mp ho; exact ⟨neg_sm h, neg_len l⟩
theorem any_false {α : Type} (xs : List α) : xs.any (fun _ => false) = false := by induction xs with
  | nil => rfl
  | cons x r ih => rw [List.any_cons, ih]; rfl
theorem line_right {s : Str} {row ns : List Int} (hs : SG s) (h : Sm row) (hl : row.length ≤ 1000) (hn : row.length = ns.length) : m__law_line_right s row ns = .ok true := by
  unfold m__law_line_right
  rw [lvalue_ok h (by omega) (by omega), lcontr_ok (by omega)]
  simp only [bok]
  rw [forC_look]
  · rfl
  · intro line hline
    have e : ∃ t, line = (s, Sq.mk t row) := by
      rcases List.mem_cons.mp hline with rfl | hline
      · exact ⟨_, rfl⟩
      · cases List.mem_singleton.mp hline; exact ⟨_, rfl⟩
    obtain ⟨t, rfl⟩ := e
    rw [value_ok h (by omega), told_ok hl]
    simp only [bok]
    rw [show m__law_alike (PD.mk (Dat.toD (dot row ns))) (PD.mk (Dat.toD (dot row ns))) = .ok true from alike_int _]
    simp only [bok, andM_ok, orM_ok, Bool.not_true, Bool.or_self, Bool.false_eq_true, if_false]
    obtain ⟨s0, l0, r, e, e1, e2⟩ := contr_head s row
    rw [cat_ok (by rw [e, sizeLine_eq]; simp; omega)]
    simp only [bok]
    rw [forC_ret (p := fun _ => false) (g := fun (r : Int) (o : Str × Sq Int) => if tr o.1 (dot o.2.l ns) then r + 1 else r) (v := false) (fun r o ho => by
      have ho' : Sm o.2.l ∧ o.2.l.length = row.length := by
        rcases List.mem_cons.mp ho with rfl | ho
        · exact ⟨h, rfl⟩
        · exact contr_all h o ho
      obtain ⟨os, ot, ol⟩ := o
      rw [lvalue_ok ho'.1 (by rw [ho'.2]; omega) (by rw [ho'.2]; omega)]
      simp only [bok]
      rw [true_ok, holds_ok ho'.1 (by rw [ho'.2]; omega)]
      simp only [bok]
      rw [says_refl]
      simp only [bok, Bool.not_true, Bool.false_eq_true, if_false]
      cases tr os (dot ol ns) <;> rfl)]
    rw [any_false]
    show thenC (Res.ok (if false = true then Ctl.rt false else Ctl.nx _)) _ = _
    rw [thenC_if]
    show (if ((!decide ((((s, Sq.mk t row) :: contr s row).foldl _ 0) = 1)) || (((!Dat.dec ns ns)) || ((!Dat.dec row row)))) = true then _ else _) = _
    rw [decide_eq_true (one_held hs t row ns), (Dat.iff ns ns).mpr rfl, (Dat.iff row row).mpr rfl]
    rfl
/-! ### what is drawn -/
theorem many2 {s : Scr} {k many limit : Int} (hk : 0 ≤ k) (hk2 : k < 4294967296) (hm0 : 0 ≤ many) (hm : many ≤ 1000000) (hl : 0 < limit) (hl2 : limit < 4294967296) :
    Ok (m__law_many s k many limit) fun xs => (xs.length : Int) = many ∧ ∀ x ∈ xs, 0 ≤ x ∧ x < limit :=
  (many_ok hk hk2 hm0 hm hl hl2).mono fun xs h => ⟨by omega, h.2⟩
theorem draw_ok {xs : List Int} {k c : Int} (h0 : 0 ≤ k) (h1 : k < xs.length) (hc : 0 < c) : Ok ((idxM xs k).bind fun x => modM x c) fun r => 0 ≤ r ∧ r < c := by
  rw [idx0 h0 h1]
  simp only [bok]
  rw [mod_pos hc]
  exact ⟨Int.emod_nonneg _ (by omega), Int.emod_lt_of_pos _ hc⟩
theorem is_ok {xs : List Int} {k c d : Int} (h0 : 0 ≤ k) (h1 : k < xs.length) (hc : 0 < c) : Ok (((idxM xs k).bind fun x => modM x c).bind fun x => Res.ok (decide (x = d))) fun _ => True :=
  wp (draw_ok h0 h1 hc) fun _ _ => True.intro
theorem pick_ok {α : Type} {ys : List α} {P : α → Prop} {xs : List Int} {k c : Int} (h0 : 0 ≤ k) (h1 : k < xs.length) (hc : 0 < c) (hy : c ≤ ys.length) (h : ∀ y ∈ ys, P y) : Ok (((idxM xs k).bind fun x => modM x c).bind fun y => idxM ys y) P :=
  wp (draw_ok h0 h1 hc) fun y hy' => idx_all hy'.1 (by omega) h
theorem less_ok {l : List Int} {w : Int} (hl : l.length ≤ 100000) (h : ∀ x ∈ l, 0 ≤ x ∧ x < 2 * w + 1) : Ok (lcX (fun _ => Res.ok true) (fun x => Res.ok (x - w)) l) fun r => r.length = l.length ∧ ∀ x ∈ r, -w ≤ x ∧ x ≤ w := by
  rw [lcX_ok (g := fun x => x - w) (by rw [sizeLine_eq]; omega) fun x hx => rfl]
  refine ⟨List.length_map .., fun y hy => ?_⟩
  obtain ⟨x, hx, rfl⟩ := List.mem_map.mp hy
  have := h x hx
  show -w ≤ x - w ∧ x - w ≤ w
  omega
theorem zeros_ok {α : Type} {l : List α} (hl : l.length ≤ 100000) : lcX (fun _ => Res.ok true) (fun _ => Res.ok (0 : Int)) l = .ok (l.map fun _ => 0) := lcX_ok (by rw [sizeLine_eq]; omega) fun _ _ => rfl
theorem sm_of {l : List Int} {w : Int} (h : ∀ x ∈ l, -w ≤ x ∧ x ≤ w) (hw : w ≤ 1000000000) : Sm l := fun x hx => by have := h x hx; omega
theorem repl {α : Type} {xs : List α} {y : α} {i : Int} (hl : xs.length ≤ 100000) : (catM (cut xs none (some i)) [y]).bind (fun a => catM a (cut xs (some (i + 1)) none)) = .ok ((cut xs none (some i) ++ [y]) ++ cut xs (some (i + 1)) none) := by
  have h1 := cut_len (xs := xs) (a := none) (b := some i)
  have h2 := cut_len (xs := xs) (a := some (i + 1)) (b := none)
  rw [cat_ok (by rw [sizeLine_eq]; simp; omega)]
  simp only [bok]
  rw [cat_ok (by rw [sizeLine_eq, List.length_append]; simp; omega)]
theorem repl_mem {α : Type} {xs : List α} {y z : α} {a b c d : Option Int} (h : z ∈ (cut xs a b ++ [y]) ++ cut xs c d) : z = y ∨ z ∈ xs := by
  rcases List.mem_append.mp h with h | h
  · rcases List.mem_append.mp h with h | h
    · exact .inr (cut_sub h)
    · exact .inl (List.mem_singleton.mp h)
  · exact .inr (cut_sub h)
theorem repl_len {α : Type} {xs : List α} {y : α} {i : Int} (h : 0 ≤ i) (h2 : i < xs.length) : ((cut xs none (some i) ++ [y]) ++ cut xs (some (i + 1)) none).length = xs.length := by
  rw [cut_to h (by omega), cut_from (by omega) (by omega), List.length_append, List.length_append, List.length_take, List.length_drop]
  simp
  omega
theorem closed_ok {row : List Int} {place amount : Int} (hl : row.length ≤ 1000) (hp : 0 ≤ place) (hp2 : 0 < row.length → place < row.length) : Ok (m__law_closed row place amount) fun ns => ns.length = row.length := by
  unfold m__law_closed
  simp only [bok]
  rw [zeros_ok (by omega), guardR_ok (inRange_of (by omega) (by omega))]
  simp only [bok]
  rw [lcX_id (p := fun at' => !decide (at' = place)) (by rw [rng_len, sizeLine_eq]; omega) fun _ _ => rfl]
  simp only [bok]
  generalize ho : (rng 0 (row.length : Int)).filter (fun at' => !decide (at' = place)) = others
  have hb : ∀ x ∈ others, 0 ≤ x ∧ x < row.length := fun x hx => by
    rw [← ho] at hx
    exact rng_mem (List.mem_filter.mp hx).1
  have hol : others.length ≤ row.length := by rw [← ho]; exact Nat.le_trans (List.length_filter_le ..) (by rw [rng_len]; omega)
  rw [div_s (by omega) (by omega)]
  simp only [bok]
  have h2 : (others.length : Int) / 2 * 2 ≤ others.length := Int.ediv_mul_le _ (by omega)
  rw [guardR_ok (inRange_of (by omega) (by omega))]
  simp only [bok]
  refine wp (P := fun r : List Int => r.length = row.length) ?_ fun r hr => ?_
  · refine forR_inv (by rw [List.length_map]) fun turn ns ht hns => ?_
    have hx := rng_mem ht
    rw [mul_l (by omega)]
    simp only [bok]
    rw [idx0 (by omega) (by omega)]
    simp only [bok]
    rw [idx0 (by omega) (by omega)]
    simp only [bok]
    have ha := hb _ (at0_mem (xs := others) (i := 2 * turn) (by omega) (by omega))
    have hb' := hb _ (at0_mem (xs := others) (i := 2 * turn + 1) (by omega) (by omega))
    rw [idx0 hb'.1 hb'.2, idx0 ha.1 ha.2]
    simp only [bok]
    rw [setM_ok ha.1 (by omega)]
    simp only [bok]
    rw [setM_ok hb'.1 (by rw [List.length_set]; omega)]
    simp only [bok]
    show (List.set _ _ _).length = _
    rw [List.length_set, List.length_set]
    exact hns
  · by_cases h0 : 0 < (row.length : Int)
    · rw [if_pos (decide_eq_true h0), setM_ok hp (by have := hp2 (by omega); omega)]
      simp only [bok]
      show (List.set _ _ _).length = _
      rw [List.length_set]
      exact hr
    · rw [if_neg (by simpa using h0)]
      exact hr
structure Asked (asked : List (List Int × List Int)) : Prop where
  all : ∀ p ∈ asked, p.1.length = p.2.length ∧ p.1.length ≤ 16 ∧ Sm p.1
theorem Asked.app {asked : List (List Int × List Int)} (h : Asked asked) {p : List Int × List Int} (h1 : p.1.length = p.2.length ∧ p.1.length ≤ 16 ∧ Sm p.1) : Asked (asked ++ [p]) := ⟨fun q hq => by
  rcases List.mem_append.mp hq with hq | hq
  · exact h.all q hq
  · cases List.mem_singleton.mp hq; exact h1⟩
theorem each_line_ok (s : Scr) : m__law_each_line s = .ok true := by
  apply ok_eq
  unfold m__law_each_line
  simp only [bok]
  refine wp (many2 (by omega) (by omega) (by omega) (by omega) (by omega) (by omega)) fun shape ⟨hl, hp⟩ => ?_
  refine wp (draw_ok (by omega) (by omega) (by omega)) fun count hc => ?_
  refine wp (P := fun r : Int => 0 ≤ r ∧ r ≤ 16) (wp (is_ok (by omega) (by omega) (by omega)) fun k _ => ?_) fun n hn => ?_
  · cases k
    · exact ⟨by omega, by omega⟩
    · exact ⟨by omega, by omega⟩
  refine wp (pick_ok (P := fun w : Int => 1 ≤ w ∧ w ≤ 999999) (by omega) (by omega) (by omega) (by decide) (by intro y hy; simp at hy; omega)) fun w hw => ?_
  rw [mul_l (by omega)]
  simp only [bok]
  refine wp (P := fun r : List Int => (r.length : Int) = n ∧ ∀ x ∈ r, -w ≤ x ∧ x ≤ w) (wp (many2 (by omega) (by omega) (by omega) (by omega) (by omega) (by omega)) fun l hl => (less_ok (by omega) hl.2).mono fun r hr => ⟨by omega, hr.2⟩) fun row hrow => ?_
  refine wp (P := fun r : List Int => (r.length : Int) = n ∧ ∀ x ∈ r, -w ≤ x ∧ x ≤ w) (wp (many2 (by omega) (by omega) (by omega) (by omega) (by omega) (by omega)) fun l hl => (less_ok (by omega) hl.2).mono fun r hr => ⟨by omega, hr.2⟩) fun free hfree => ?_
  refine wp (P := fun _ : Int => True) (wp (P := fun _ : Int => True) (wp (cell_ok (by omega)) fun x _ => by rw [mod_pos (by omega)]; trivial) fun _ _ => trivial) fun drawn _ => ?_
  rw [zeros_ok (by omega)]
  simp only [bok]
  have hsm : Sm row := sm_of hrow.2 (by omega)
  have base : Asked [(row, free), (row, row.map fun _ => 0)] := ⟨fun p hp => by
    rcases List.mem_cons.mp hp with rfl | hp
    · exact ⟨by show row.length = free.length; omega, by show row.length ≤ 16; omega, hsm⟩
    · cases List.mem_singleton.mp hp
      exact ⟨by show row.length = (row.map _).length; rw [List.length_map], by show row.length ≤ 16; omega, hsm⟩⟩
  refine wp (P := Asked) ?_ fun asked ha => ?_
  · by_cases h0 : 0 < n
    · rw [if_pos (decide_eq_true h0)]
      refine wp (draw_ok (by omega) (by omega) (by omega)) fun place hpl => ?_
      refine wp (pick_ok (P := fun u : Int => -1 ≤ u ∧ u ≤ 1) (by omega) (by omega) (by omega) (by decide) (by intro y hy; simp at hy; omega)) fun unit hu => ?_
      rw [repl (by omega)]
      simp only [bok]
      have hlen := repl_len (xs := row) (y := unit) hpl.1 (by omega)
      have hsm2 : Sm ((cut row none (some place) ++ [unit]) ++ cut row (some (place + 1)) none) := fun x hx => by
        rcases repl_mem hx with rfl | hx
        · omega
        · exact hsm x hx
      generalize ((cut row none (some place) ++ [unit]) ++ cut row (some (place + 1)) none) = other at hlen hsm2
      rw [apn_ok (by rw [sizeLine_eq]; simp)]
      simp only [bok]
      refine wp (P := fun r => Asked r) ?_ fun r hr => hr
      have b2 : Asked ([(row, free), (row, row.map fun _ => 0)] ++ [(other, free)]) := base.app ⟨by show other.length = free.length; omega, by show other.length ≤ 16; omega, hsm2⟩
      refine (forR_wp (I := fun d (r : List (List Int × List Int)) => Asked r ∧ r.length = 3 + d.length) (done := []) ⟨b2, rfl⟩ fun d x r s' e hs => ?_).mono fun r hr => hr.1
      refine wp (P := fun r : List (List Int × List Int) => Asked r ∧ r.length = 3 + (d ++ [x]).length) ?_ fun r h => h
      refine wp (P := fun a : List Int × List Int => a.1.length = a.2.length ∧ a.1.length ≤ 16 ∧ Sm a.1) (wp (closed_ok (by omega) hpl.1 (by omega)) fun ns hns => ⟨by show other.length = ns.length; omega, by show other.length ≤ 16; omega, hsm2⟩) fun p hp => ?_
      have hd := congrArg List.length e
      simp at hd
      rw [apn_ok (by rw [sizeLine_eq]; omega)]
      exact ⟨hs.1.app hp, by simp; omega⟩
    · rw [if_neg (by simpa using h0)]
      exact base
  · rw [forC_look]
    · rfl
    · intro sign hsign
      have hs : SG sign := by simp at hsign; exact hsign
      rw [forC_look]
      · rfl
      · intro p hp
        obtain ⟨h1, h2, h3⟩ := ha.all p hp
        rw [line_right hs h3 (by omega) h1]
        rfl
/-! ### judges -/
theorem sg3 : ∀ s ∈ [Str.ofString ">", Str.ofString ">=", Str.ofString "="], SG s := fun s hs => by simp at hs; exact hs
theorem sg_gt : SG (Str.ofString ">") := .inl rfl
theorem sg_ge : SG (Str.ofString ">=") := .inr (.inl rfl)
theorem sg_eq : SG (Str.ofString "=") := .inr (.inr rfl)
theorem Ls.nil (c n : Nat) : Ls c n [] := ⟨by simp, fun _ h => nomatch h⟩
theorem Ls.app {c n m : Nat} {l l2 : List (Str × Tup Int)} (h : Ls c n l) (h2 : Ls c m l2) : Ls c (n + m) (l ++ l2) := ⟨by rw [List.length_append]; have := h.len; have := h2.len; omega, fun x hx => by
  rcases List.mem_append.mp hx with hx | hx
  · exact h.ln x hx
  · exact h2.ln x hx⟩
theorem Ls.one {c : Nat} {x : Str × Tup Int} (h : LnOk c x) : Ls c 1 [x] := ⟨Nat.le_refl _, fun y hy => by cases List.mem_singleton.mp hy; exact h⟩
theorem Ls.cut {c n : Nat} {l : List (Str × Tup Int)} (h : Ls c n l) (a b : Option Int) : Ls c n (Py.cut l a b) := ⟨Nat.le_trans cut_len h.len, fun x hx => h.ln x (cut_sub hx)⟩
theorem Ls.mono {c n m : Nat} {l : List (Str × Tup Int)} (h : Ls c n l) (hm : n ≤ m) : Ls c m l := ⟨Nat.le_trans h.len hm, h.ln⟩
theorem catL {c n m : Nat} {l l2 : List (Str × Tup Int)} (h : Ls c n l) (h2 : Ls c m l2) (hn : n + m ≤ 100000) : Ok (catM l l2) (Ls c (n + m)) := by
  rw [cat_ok (by have := h.len; have := h2.len; rw [sizeLine_eq]; omega)]
  exact h.app h2
theorem put2_ok {c n : Nat} {l : List (Str × Tup Int)} {x : Str × Tup Int} (h : Ls c n l) (hx : LnOk c x) (hn : n ≤ 1000) (at' : Int) : Ok (m__law_put_o2 l at' x) (Ls c (n + 1 + n)) := by
  unfold m__law_put_o2
  simp only [bok]
  refine wp (catL (h.cut _ _) (.one hx) (by omega)) fun a ha => ?_
  exact catL ha (h.cut _ _) (by omega)
theorem put_ok {l : List Int} (h : l.length ≤ 10000) (at' x : Int) : Ok (m__law_put l at' x) fun _ => True := by
  unfold m__law_put
  simp only [bok]
  have h1 := cut_len (xs := l) (a := none) (b := some at')
  have h2 := cut_len (xs := l) (a := some at') (b := none)
  rw [cat_ok (by rw [sizeLine_eq]; simp; omega)]
  simp only [bok]
  rw [cat_ok (by rw [sizeLine_eq, List.length_append]; simp; omega)]
  trivial
theorem repl2 {c n : Nat} {l : List (Str × Tup Int)} {x : Str × Tup Int} (h : Ls c n l) (hx : LnOk c x) (hn : n ≤ 1000) (i j : Int) : Ok ((catM (cut l none (some i)) [x]).bind fun a => catM a (cut l (some j) none)) (Ls c (n + 1 + n)) :=
  wp (catL (h.cut _ _) (.one hx) (by omega)) fun a ha => catL ha (h.cut _ _) (by omega)
def zer (c : Nat) : List Int := (rng 0 (c : Int)).map fun _ => 0
theorem zer_ok {c : Nat} {s : Str} (h : SG s) : LnOk c (s, ⟨zer c⟩) := ⟨h, by show ((rng 0 (c : Int)).map _).length = c; rw [List.length_map, rng_len], fun x hx => by
  obtain ⟨y, hy, rfl⟩ := List.mem_map.mp hx
  decide⟩
theorem nothing_ok {c : Nat} (hc : c ≤ 100) : ((guardR (inRange (c : Int)) (Res.ok (rng 0 (c : Int)))).bind fun z => lcX (fun _ => Res.ok true) (fun _ => Res.ok (0 : Int)) z) = .ok (zer c) := by
  rw [guardR_ok (inRange_of (by omega) (by omega))]
  simp only [bok]
  exact zeros_ok (by rw [rng_len]; omega)
theorem times_counted_ok {c n : Nat} {lines : List (Str × Tup Int)} {times : List Int} (h : Ls c n lines) (hn : n ≤ 100) (hc : c ≤ 100) (ht : times.length ≤ 1000) (at' : Int) : m__law_times_counted (c : Int) lines times at' = .ok true := by
  apply ok_eq
  unfold m__law_times_counted
  simp only [bok]
  rw [nothing_ok hc]
  simp only [bok]
  refine wp (catL h (.one (zer_ok sg_ge)) (by omega)) fun more hmore => ?_
  rw [cat_ok (by rw [sizeLine_eq]; simp; omega)]
  simp only [bok]
  rw [bal_judged hmore (by omega) (by omega), bal_judged hmore (by omega) (by omega), bal_judged h (by omega) (by omega), bal_judged (Ls.nil c 0) (by omega) (by omega)]
  simp only [bok, orM_ok, Bool.not_true, Bool.or_self, Bool.false_eq_true, if_false]
  rw [forC_look]
  · rfl
  · intro sign hs
    apply ok_eq
    refine wp (put2_ok h (zer_ok (sg3 sign hs)) (by omega) at') fun wide hw => ?_
    rw [forC_look]
    · rfl
    · intro one _
      apply ok_eq
      refine wp (P := fun k => k = false) (wp (P := fun k => k = true) (wp (put_ok (by omega) at' one) fun l _ => by rw [bal_judged hw (by omega) (by omega)]; rfl) fun k hk => by subst hk; rfl) fun k hk => by subst hk; rfl
theorem twice_ok {c n : Nat} {lines : List (Str × Tup Int)} {times : List Int} (h : Ls c n lines) (hn : n ≤ 100) (hc : c ≤ 100) (ht : times.length = lines.length) (at' : Int) {other : Int} (h0 : 0 ≤ other) (h1 : other < lines.length) : m__law_twice (c : Int) lines times at' other = .ok true := by
  apply ok_eq
  unfold m__law_twice
  simp only [bok]
  have hl := h.len
  have hm := h.ln _ (at0_mem (xs := lines) h0 h1)
  rw [idx0 h0 h1]
  simp only [bok]
  rw [forC_look]
  · rfl
  · intro sign hs
    apply ok_eq
    refine wp (put2_ok (x := (sign, (at0 lines other).2)) h ⟨sg3 sign hs, hm.len, hm.sm⟩ (by omega) at') fun wide hw => ?_
    rw [idx0 h0 (by omega)]
    simp only [bok]
    rw [setM_ok h0 (by omega)]
    simp only [bok]
    refine wp (P := fun k => k = false) (wp (P := fun k => k = true) (wp (put_ok (by rw [List.length_set]; omega) at' _) fun l _ => by rw [bal_judged hw (by omega) (by omega)]; rfl) fun k hk => by subst hk; rfl) fun k hk => by subst hk; rfl
theorem says_more_ok {c n : Nat} {lines : List (Str × Tup Int)} {times : List Int} (h : Ls c n lines) (hn : n ≤ 100) (hc : c ≤ 100) (ht : times.length = lines.length) {place : Int} (h0 : 0 ≤ place) (h1 : place < lines.length) : m__law_says_more (c : Int) lines times place = .ok true := by
  apply ok_eq
  unfold m__law_says_more
  simp only [bok]
  have hl := h.len
  have hm := h.ln _ (at0_mem (xs := lines) h0 h1)
  rw [zeros_ok (by omega)]
  simp only [bok]
  rw [bal_judged h (by omega) (by omega), idx0 h0 h1]
  simp only [bok, Bool.not_true, Bool.false_eq_true, if_false]
  rw [forC_look]
  · rfl
  · intro sign hs
    have hs' : SG sign := sg3 sign (List.mem_cons_of_mem _ hs)
    apply ok_eq
    refine wp (P := fun k => k = false) (wp (P := fun k => k = true) (wp (repl2 h (x := (sign, (at0 lines place).2)) ⟨hs', hm.len, hm.sm⟩ (by omega) _ _) fun l hl => by rw [bal_judged hl (by omega) (by omega)]; rfl) fun k hk => by subst hk; rfl) fun k hk => by subst hk; rfl
theorem each_unknown_ok {c n : Nat} {lines : List (Str × Tup Int)} {times : List Int} (h : Ls c n lines) (hn : n ≤ 100) (hc : c ≤ 100) (hsm : ∀ ln ∈ lines, ∀ x ∈ ln.2.l, x.natAbs < 1000000000) {place : Int} (h0 : 0 ≤ place) (h1 : place < lines.length) : m__law_each_unknown (c : Int) lines times place = .ok true := by
  apply ok_eq
  unfold m__law_each_unknown
  simp only [bok]
  have hl := h.len
  have hmem := at0_mem (xs := lines) h0 h1
  have hm := h.ln _ hmem
  rw [idx0 h0 h1]
  simp only [bok]
  rw [guardR_ok (inRange_of (by omega) (by omega))]
  simp only [bok]
  generalize at0 lines place = line at hm hmem
  rw [forC_look]
  · rfl
  · intro u hu
    have hx := rng_mem hu
    rw [forC_look]
    · rfl
    · intro by' hb
      have hb' : -1 ≤ by' ∧ by' ≤ 1 := by simp at hb; omega
      rw [idx0 hx.1 (by rw [hm.len]; omega)]
      simp only [bok]
      rw [repl (by rw [hm.len]; omega)]
      simp only [bok]
      have hlen := repl_len (xs := line.2.l) (y := at0 line.2.l u + by') hx.1 (by rw [hm.len]; omega)
      have hs2 : Sm ((cut line.2.l none (some u) ++ [at0 line.2.l u + by']) ++ cut line.2.l (some (u + 1)) none) := fun x hx2 => by
        rcases repl_mem hx2 with rfl | hx2
        · have := hsm _ hmem _ (at0_mem (xs := line.2.l) hx.1 (by rw [hm.len]; omega))
          omega
        · exact hm.sm x hx2
      apply ok_eq
      refine wp (repl2 h (x := (Str.ofString ">", ⟨(cut line.2.l none (some u) ++ [at0 line.2.l u + by']) ++ cut line.2.l (some (u + 1)) none⟩)) ⟨sg_gt, by show List.length _ = c; rw [hlen]; exact hm.len, hs2⟩ (by omega) _ _) fun l hl => ?_
      rw [bal_judged hl (by omega) (by omega)]
      rfl
/-! ### systems -/
theorem mul_le {a b c : Int} (h : a ≤ b) (hc : 0 ≤ c) : a * c ≤ b * c := Int.mul_le_mul_of_nonneg_right h hc
theorem abs_mul {x y : Int} {a b : Nat} (hx : x.natAbs ≤ a) (hy : y.natAbs ≤ b) : (x * y).natAbs ≤ a * b := by
  rw [Int.natAbs_mul]
  exact Nat.mul_le_mul hx hy
theorem dot_bound {r ns : List Int} {a b : Nat} (h : ∀ x ∈ r, x.natAbs ≤ a) (h2 : ∀ x ∈ ns, x.natAbs ≤ b) : (dot r ns).natAbs ≤ r.length * (a * b) := by
  unfold dot
  induction r generalizing ns with
  | nil => simp
  | cons x r ih =>
    cases ns with
    | nil => simp
    | cons y ns =>
      have i := ih (fun z hz => h z (List.mem_cons_of_mem _ hz)) (ns := ns) fun z hz => h2 z (List.mem_cons_of_mem _ hz)
      have p := abs_mul (h x (List.mem_cons_self ..)) (h2 y (List.mem_cons_self ..))
      simp only [List.zip_cons_cons, List.map_cons, List.sum_cons, List.length_cons, Nat.succ_mul]
      omega
theorem system_ok {s : Scr} {shape : List Int} (hl : (shape.length : Int) = 16) (hp : ∀ x ∈ shape, 0 ≤ x ∧ x < 2520) :
    Ok (m__law_system s shape) fun t => ∃ c : Nat, t.a = (c : Int) ∧ c ≤ 16 ∧ Ls c 58 t.b ∧ t.c.length = t.b.length ∧ 0 ≤ t.d ∧ t.d < t.b.length ∧ ∀ ln ∈ t.b, ∀ x ∈ ln.2.l, x.natAbs < 1000000000 := by
  unfold m__law_system
  simp only [bok]
  refine wp (P := fun r : Int => 1 ≤ r ∧ r ≤ 8) (wp (draw_ok (by omega) (by omega) (by omega)) fun r hr => ⟨by omega, by omega⟩) fun count hcount => ?_
  refine wp (P := fun r : Int => 1 ≤ r ∧ r ≤ 6) (wp (draw_ok (by omega) (by omega) (by omega)) fun r hr => ⟨by omega, by omega⟩) fun many hmany => ?_
  refine wp (P := fun r : Int × Int × Int => (1 ≤ r.1 ∧ r.1 ≤ 16) ∧ (1 ≤ r.2.1 ∧ r.2.1 ≤ 57) ∧ 1 ≤ r.2.2 ∧ r.2.2 ≤ 1001) (wp (is_ok (by omega) (by omega) (by omega)) fun k _ => ?_) ?_
  · cases k
    · refine wp (P := fun r : Int => r = 6 ∨ r = 1001) (wp (is_ok (by omega) (by omega) (by omega)) fun k _ => ?_) fun r hr => show (1 ≤ count ∧ count ≤ 16) ∧ (1 ≤ many ∧ many ≤ 57) ∧ 1 ≤ r ∧ r ≤ 1001 from ⟨⟨by omega, by omega⟩, ⟨by omega, by omega⟩, by omega, by omega⟩
      cases k
      · exact .inl rfl
      · exact .inr rfl
    · exact (by decide : ((1 : Int) ≤ 16 ∧ (16 : Int) ≤ 16) ∧ ((1 : Int) ≤ 57 ∧ (57 : Int) ≤ 57) ∧ (1 : Int) ≤ 6 ∧ (6 : Int) ≤ 1001)
  rintro ⟨c, m, lim⟩ ⟨hc, hm, hlim⟩
  dsimp only at hc hm hlim
  obtain ⟨cn, hcn⟩ := Int.eq_ofNat_of_zero_le (show 0 ≤ c by omega)
  obtain ⟨mn, hmn⟩ := Int.eq_ofNat_of_zero_le (show 0 ≤ m by omega)
  subst hcn hmn
  dsimp only
  refine wp (P := fun r : Int => 1 ≤ r ∧ r ≤ 4) (wp (draw_ok (by omega) (by omega) (by omega)) fun r hr => ⟨by omega, by omega⟩) fun unit hunit => ?_
  refine wp (draw_ok (by omega) (by omega) (by omega)) fun more hmore => ?_
  refine wp (is_ok (by omega) (by omega) (by omega)) fun single _ => ?_
  rw [mul_l (by omega)]
  simp only [bok]
  have hcm0 : 0 ≤ (cn : Int) * mn := Int.mul_nonneg (by omega) (by omega)
  have hcm1 : (cn : Int) * mn ≤ 912 := by
    have h1 : (cn : Int) * mn ≤ 16 * mn := mul_le (by omega) (by omega)
    omega
  refine wp (P := fun r : List Int => (r.length : Int) = (cn : Int) * mn ∧ ∀ x ∈ r, -9 ≤ x ∧ x ≤ 9) (wp (many2 (by omega) (by omega) hcm0 (by omega) (by omega) (by omega)) fun l hl => (less_ok (w := 9) (by omega) hl.2).mono fun r hr => ⟨by omega, hr.2⟩) fun entries hentries => ?_
  refine wp (many2 (by omega) (by omega) (by omega) (by omega) (by omega) (by omega)) fun picks hpicks => ?_
  refine wp (many2 (by omega) (by omega) (by omega) (by omega) (by omega) (by omega)) fun amounts hamounts => ?_
  rw [guardR_ok (inRange_of (by omega) (by omega)), guardR_ok (inRange_of (by omega) (by omega))]
  simp only [bok]
  rw [zeros_ok (by rw [rng_len]; omega)]
  simp only [bok]
  refine wp (P := fun r : List Int × List (Str × Tup Int) × List Int => r.1.length = mn ∧ Ls cn mn r.2.1 ∧ r.2.1.length = mn ∧ r.2.2.length = cn ∧ (∀ x ∈ r.2.2, x.natAbs ≤ 513513) ∧ ∀ ln ∈ r.2.1, ∀ x ∈ ln.2.l, x.natAbs ≤ 1000) ?_ ?_
  · refine (forR_wp (I := fun d (r : List Int × List (Str × Tup Int) × List Int) => r.1.length = mn ∧ (∀ x ∈ r.1, x.natAbs ≤ 1001) ∧ Ls cn d.length r.2.1 ∧ r.2.1.length = d.length ∧ r.2.2.length = cn ∧ (∀ x ∈ r.2.2, x.natAbs ≤ d.length * 9009) ∧ ∀ ln ∈ r.2.1, ∀ x ∈ ln.2.l, x.natAbs ≤ 1000) (done := []) ?_ ?_).mono ?_
    · refine ⟨by show amounts.length = mn; omega, fun x hx => ?_, Ls.nil _ _, rfl, by show (List.map _ _).length = cn; rw [List.length_map, rng_len], fun x hx => ?_, fun _ h => nomatch h⟩
      · have := hamounts.2 x hx; omega
      · obtain ⟨y, hy, rfl⟩ := List.mem_map.mp hx; decide
    · rintro d x r ⟨am, ls, sums⟩ e ⟨h1, h2, h3, h4, h5, h6, h7⟩
      dsimp only at h1 h2 h3 h4 h5 h6 h7 ⊢
      have hx := rng_mem (lo := 0) (hi := (mn : Int)) (x := x) (by have e2 : rng 0 (mn : Int) = d ++ x :: r := e; rw [e2]; simp)
      have hd : d.length < mn := by
        have := congrArg List.length e
        simp only [List.nil_append, rng_len, List.length_append, List.length_cons] at this
        omega
      refine wp (pick_ok (P := SG) hx.1 (by omega) (by omega) (by decide) sg3) fun sign hsign => ?_
      have hpk : idxM picks x = .ok (at0 picks x) := idx0 hx.1 (by omega)
      have hab : ∀ (l : List Int), l.length = mn → (∀ z ∈ l, z.natAbs ≤ 1001) → (at0 l x).natAbs ≤ 1001 ∧ idxM l x = .ok (at0 l x) := fun l hl hz => ⟨hz _ (at0_mem hx.1 (by omega)), idx0 hx.1 (by omega)⟩
      have hset : ∀ (l : List Int) (v : Int), l.length = mn → (∀ z ∈ l, z.natAbs ≤ 1001) → v.natAbs ≤ 1001 → Ok (setM l x v) fun l' => l'.length = mn ∧ ∀ z ∈ l', z.natAbs ≤ 1001 := fun l v hl hz hv => by
        rw [setM_ok hx.1 (by omega)]
        refine ⟨by rw [List.length_set]; exact hl, fun z hz2 => ?_⟩
        rcases List.mem_or_eq_of_mem_set hz2 with h | h
        · exact hz z h
        · rw [h]; exact hv
      refine wp (P := fun l : List Int => l.length = mn ∧ ∀ z ∈ l, z.natAbs ≤ 1001) ?_ fun am1 ham1 => ?_
      · rw [hpk]
        simp only [bok, andM_ok]
        split
        · rw [(hab am h1 h2).2]
          simp only [bok]
          exact wp (hset am _ h1 h2 (by rw [Int.natAbs_neg]; exact (hab am h1 h2).1)) fun l hl => hl
        · exact ⟨h1, h2⟩
      refine wp (P := fun l : List Int => l.length = mn ∧ ∀ z ∈ l, z.natAbs ≤ 1001) ?_ fun am2 ham2 => ?_
      · split
        · exact wp (hset am1 _ ham1.1 ham1.2 (by decide)) fun l hl => hl
        · exact ham1
      refine wp (P := fun l : List Int × Str => SG l.2 ∧ l.1.length = mn ∧ ∀ z ∈ l.1, z.natAbs ≤ 1001) ?_ ?_
      · split
        · obtain ⟨q1, q2⟩ := hab am2 ham2.1 ham2.2
          rw [q2]
          simp only [bok]
          refine wp (hset am2 _ ham2.1 ham2.2 (by split <;> omega)) fun l hl => ⟨sg_gt, hl⟩
        · exact ⟨hsign, ham2⟩
      rintro ⟨am3, sign2⟩ ⟨hsign2, ham3⟩
      dsimp only at hsign2 ham3 ⊢
      rw [mul_l (by omega)]
      simp only [bok]
      have hxc : 0 ≤ x * (cn : Int) := Int.mul_nonneg hx.1 (by omega)
      have hxc2 : x * (cn : Int) + cn ≤ (cn : Int) * mn := by
        have h1 : (x + 1) * (cn : Int) ≤ (mn : Int) * cn := mul_le (by omega) (by omega)
        rw [Int.add_mul, Int.one_mul] at h1
        rw [Int.mul_comm (cn : Int)]
        exact h1
      have hrow : ((cut entries (some (x * (cn : Int))) (some (x * (cn : Int) + cn))).length = cn) := by
        rw [cut_mid hxc (by omega) (by omega), List.length_take, List.length_drop]
        omega
      have hrs : ∀ z ∈ cut entries (some (x * (cn : Int))) (some (x * (cn : Int) + cn)), -9 ≤ z ∧ z ≤ 9 := fun z hz => hentries.2 z (cut_sub hz)
      generalize cut entries (some (x * (cn : Int))) (some (x * (cn : Int) + cn)) = row at hrow hrs
      obtain ⟨q1, q2⟩ := hab am3 ham3.1 ham3.2
      rw [lcX_ok (g := fun k => at0 sums k + at0 am3 x * at0 row k) (by rw [rng_len, sizeLine_eq]; omega) fun k hk => by
        have hk := rng_mem hk
        rw [idx0 hk.1 (by omega), q2, idx0 hk.1 (by omega)]
        simp only [bok]
        rw [mul_l (by omega)]
        simp only [bok]]
      simp only [bok]
      rw [lcX_ok (g := fun z => unit * z) (by rw [sizeLine_eq]; omega) fun z hz => mul_l (by omega)]
      simp only [bok]
      rw [apn_ok (by rw [sizeLine_eq]; omega)]
      have hln : LnOk cn (sign2, ⟨row.map fun z => unit * z⟩) ∧ ∀ z ∈ row.map (fun z => unit * z), z.natAbs ≤ 1000 := by
        have hb : ∀ z ∈ row.map (fun z => unit * z), z.natAbs ≤ 1000 := fun z hz => by
          obtain ⟨y, hy, rfl⟩ := List.mem_map.mp hz
          have hr := hrs y hy
          have := abs_mul (x := unit) (y := y) (a := 4) (b := 9) (by omega) (by omega)
          omega
        exact ⟨⟨hsign2, by show (List.map _ _).length = cn; rw [List.length_map]; exact hrow, fun z hz => by have := hb z hz; omega⟩, hb⟩
      refine ⟨ham3.1, ham3.2, (h3.app (.one hln.1)).mono (by simp), by simp [h4], by show (List.map _ _).length = cn; rw [List.length_map, rng_len], fun z hz => ?_, fun ln hln2 => ?_⟩
      · obtain ⟨k, hk, rfl⟩ := List.mem_map.mp hz
        have hk := rng_mem hk
        have e1 := h6 _ (at0_mem (xs := sums) hk.1 (by omega))
        have e2 := hrs _ (at0_mem (xs := row) hk.1 (by omega))
        have e3 := abs_mul (x := at0 am3 x) (y := at0 row k) (a := 1001) (b := 9) q1 (by omega)
        show (at0 sums k + at0 am3 x * at0 row k).natAbs ≤ _
        simp only [List.length_append, List.length_cons, List.length_nil]
        omega
      · rcases List.mem_append.mp hln2 with h | h
        · exact h7 ln h
        · cases List.mem_singleton.mp h
          exact hln.2
    · rintro ⟨am, ls, sums⟩ ⟨h1, h2, h3, h4, h5, h6, h7⟩
      simp only [List.nil_append, rng_len] at h1 h2 h3 h4 h5 h6 h7
      refine ⟨h1, h3, h4, h5, fun x hx => ?_, h7⟩
      have := h6 x hx
      omega
  · rintro ⟨am, ls, sums⟩ ⟨h1, h3, h4, h5, h6, h7⟩
    dsimp only at h1 h3 h4 h5 h6 h7 ⊢
    refine wp (pick_ok (P := SG) (by omega) (by omega) (by omega) (by decide) fun z hz => by simp at hz; rcases hz with rfl | rfl | rfl <;> first | exact sg_ge | exact sg_eq) fun sign hsign => ?_
    refine wp (P := SG) ?_ fun sign2 hsign2 => ?_
    · rw [idx0 (by omega) (by omega)]
      simp only [bok, andM_ok, orM_ok]
      split
      · exact sg_gt
      · exact hsign
    rw [lcX_ok (g := fun x => -x) (by rw [sizeLine_eq]; omega) fun x hx => rfl]
    simp only [bok]
    rw [apn_ok (by rw [sizeLine_eq]; omega)]
    simp only [bok]
    rw [apn_ok (by rw [sizeLine_eq]; omega)]
    simp only [bok]
    refine wp (draw_ok (by omega) (by omega) (by omega)) fun moved hmoved => ?_
    rw [mod_pos (by omega)]
    simp only [bok]
    have hb : ∀ z ∈ sums.map (fun x => -x), z.natAbs ≤ 513513 := fun z hz => by
      obtain ⟨y, hy, rfl⟩ := List.mem_map.mp hz
      rw [Int.natAbs_neg]
      exact h6 y hy
    have hln : LnOk cn (sign2, ⟨sums.map fun x => -x⟩) := ⟨hsign2, by show (List.map _ _).length = cn; rw [List.length_map]; exact h5, fun z hz => by have := hb z hz; omega⟩
    have hall : Ls cn 58 (ls ++ [(sign2, ⟨sums.map fun x => -x⟩)]) := (h3.app (.one hln)).mono (by omega)
    have hlen : (ls ++ [(sign2, (⟨sums.map fun x => -x⟩ : Tup Int))]).length = mn + 1 := by simp [h4]
    have hlen2 : (am ++ [unit]).length = mn + 1 := by simp [h1]
    have hbig : ∀ ln ∈ ls ++ [(sign2, (⟨sums.map fun x => -x⟩ : Tup Int))], ∀ x ∈ ln.2.l, x.natAbs < 1000000000 := fun ln hln2 x hx => by
      rcases List.mem_append.mp hln2 with h | h
      · have := h7 ln h x hx; omega
      · cases List.mem_singleton.mp h
        have := hb x hx; omega
    generalize ls ++ [(sign2, (⟨sums.map fun x => -x⟩ : Tup Int))] = ls2 at hall hlen hbig
    generalize am ++ [unit] = am2 at hlen2
    have k1 : ∀ {α : Type} (l : List α), l.length = mn + 1 → catM (cut l (some moved) none) (cut l none (some moved)) = .ok (l.drop moved.toNat ++ l.take moved.toNat) := fun l hl => by
      rw [cut_from (by omega) (by omega), cut_to (by omega) (by omega)]
      exact cat_ok (by rw [List.length_drop, List.length_take, sizeLine_eq]; omega)
    rw [k1 _ hlen, k1 _ hlen2]
    simp only [bok]
    refine ⟨cn, rfl, by omega, ⟨?_, fun x hx => hall.ln x ?_⟩, ?_, Int.emod_nonneg _ (by omega), ?_, fun ln hln2 => hbig ln ?_⟩
    · show (ls2.drop _ ++ ls2.take _).length ≤ 58
      rw [List.length_append, List.length_drop, List.length_take]; omega
    · rcases List.mem_append.mp (show x ∈ ls2.drop _ ++ ls2.take _ from hx) with h | h
      · exact List.mem_of_mem_drop h
      · exact List.mem_of_mem_take h
    · show (am2.drop _ ++ am2.take _).length = (ls2.drop _ ++ ls2.take _).length
      rw [List.length_append, List.length_drop, List.length_take, List.length_append, List.length_drop, List.length_take]; omega
    · show (more - moved) % ((mn : Int) + 1) < (((ls2.drop _ ++ ls2.take _).length : Nat) : Int)
      rw [List.length_append, List.length_drop, List.length_take]
      have := Int.emod_lt_of_pos (more - moved) (show 0 < (mn : Int) + 1 by omega)
      omega
    · rcases List.mem_append.mp (show ln ∈ ls2.drop _ ++ ls2.take _ from hln2) with h | h
      · exact List.mem_of_mem_drop h
      · exact List.mem_of_mem_take h
/-! ### fitting numbers -/
theorem line_ok {sign : Str} {row ns : List Int} {place amount : Int} (hs : SG sign) (h : ∀ x ∈ row, -9 ≤ x ∧ x ≤ 9) (hn : ∀ x ∈ ns, x.natAbs ≤ 60000) (hl : row.length ≤ 15) (hl2 : ns.length = row.length) (hp : 0 ≤ place) (hp2 : 0 < row.length → place < row.length) (ha : amount.natAbs ≤ 9) :
    Ok (m__law_line sign row ns place amount) fun ln => LnOk row.length ln := by
  unfold m__law_line
  by_cases h0 : (row.length : Int) = 0
  · rw [if_pos (decide_eq_true h0)]
    exact ⟨hs, by show 0 = row.length; omega, fun _ h => nomatch h⟩
  · rw [if_neg (by simpa using h0)]
    rw [guardR_ok (inRange_of (by omega) (by omega))]
    simp only [bok]
    rw [lcX_ok (g := fun i => if decide (i = place) then 0 else at0 row i) (by rw [rng_len, sizeLine_eq]; omega) fun i hi => by
      have hi := rng_mem hi
      by_cases e : i = place
      · rw [if_pos (decide_eq_true e), if_pos (decide_eq_true e)]
      · rw [if_neg (by simpa using e), if_neg (by simpa using e), idx0 hi.1 hi.2]]
    simp only [bok]
    have hol : ((rng 0 (row.length : Int)).map fun i => if decide (i = place) then 0 else at0 row i).length = row.length := by rw [List.length_map, rng_len]
    have hob : ∀ x ∈ (rng 0 (row.length : Int)).map (fun i => if decide (i = place) then 0 else at0 row i), x.natAbs ≤ 9 := fun x hx => by
      obtain ⟨i, hi, rfl⟩ := List.mem_map.mp hx
      have hi := rng_mem hi
      have := h _ (at0_mem (xs := row) hi.1 hi.2)
      show (if decide (i = place) = true then (0 : Int) else at0 row i).natAbs ≤ 9
      split <;> omega
    generalize (rng 0 (row.length : Int)).map (fun i => if decide (i = place) then 0 else at0 row i) = other at hol hob
    rw [lvalue_ok (fun x hx => by have := hob x hx; omega) (by omega) (by omega), qok]
    simp only [bok]
    have hpl := hp2 (by omega)
    rw [idx0 hp (by omega)]
    simp only [bok]
    have hnp := hn _ (at0_mem (xs := ns) hp (by omega))
    rw [mul_r (by omega)]
    simp only [bok]
    rw [setM_ok hp (by omega)]
    simp only [bok]
    have hd := dot_bound (r := other) (ns := ns) (a := 9) (b := 60000) hob hn
    have hd2 : other.length * (9 * 60000) ≤ 15 * (9 * 60000) := Nat.mul_le_mul_right _ (by omega)
    have hpr := abs_mul (x := amount - dot other ns) (y := at0 ns place) (a := 8100009) (b := 60000) (by omega) hnp
    refine ⟨hs, by show (List.set _ _ _).length = _; rw [List.length_set]; exact hol, fun x hx => ?_⟩
    rcases List.mem_or_eq_of_mem_set hx with h | h
    · have := hob x h; omega
    · rw [h]; omega
theorem idx_sign {s : Str} (h : SG s) : Ok (indexM [Str.ofString ">", Str.ofString ">=", Str.ofString "="] s) fun i => 0 ≤ i ∧ i < 3 := by
  rcases h with rfl | rfl | rfl
  · rw [show indexM [Str.ofString ">", Str.ofString ">=", Str.ofString "="] (Str.ofString ">") = .ok 0 by
      have h : [Str.ofString ">", Str.ofString ">=", Str.ofString "="].findIdx? (fun y => decide (y = Str.ofString ">")) = some 0 := by decide +kernel
      unfold indexM
      rw [h]
      rfl]
    exact (by decide : (0 : Int) ≤ 0 ∧ (0 : Int) < 3)
  · rw [show indexM [Str.ofString ">", Str.ofString ">=", Str.ofString "="] (Str.ofString ">=") = .ok 1 by
      have h : [Str.ofString ">", Str.ofString ">=", Str.ofString "="].findIdx? (fun y => decide (y = Str.ofString ">=")) = some 1 := by decide +kernel
      unfold indexM
      rw [h]
      rfl]
    exact (by decide : (0 : Int) ≤ 1 ∧ (1 : Int) < 3)
  · rw [show indexM [Str.ofString ">", Str.ofString ">=", Str.ofString "="] (Str.ofString "=") = .ok 2 by
      have h : [Str.ofString ">", Str.ofString ">=", Str.ofString "="].findIdx? (fun y => decide (y = Str.ofString "=")) = some 2 := by decide +kernel
      unfold indexM
      rw [h]
      rfl]
    exact (by decide : (0 : Int) ≤ 2 ∧ (2 : Int) < 3)
theorem table_ok {s : Str} (h : SG s) {t : List (List Int)} {picks : List Int} {x : Int} (ht : t.length = 3) (ht2 : ∀ r ∈ t, r.length = 4 ∧ ∀ y ∈ r, y.natAbs ≤ 9) (h0 : 0 ≤ x) (h1 : x < picks.length) (hp : ∀ y ∈ picks, 0 ≤ y ∧ y < 12) :
    Ok (((indexM [Str.ofString ">", Str.ofString ">=", Str.ofString "="] s).bind fun y => idxM t y).bind fun r => ((idxM picks x).bind fun z => divM z 3).bind fun y => idxM r y) fun v => v.natAbs ≤ 9 := by
  refine wp (P := fun r : List Int => r.length = 4 ∧ ∀ y ∈ r, y.natAbs ≤ 9) (wp (idx_sign h) fun i hi => idx_all hi.1 (by omega) ht2) fun r hr => ?_
  rw [idx0 h0 h1]
  simp only [bok]
  rw [div_s (by omega) (by omega)]
  simp only [bok]
  have := hp _ (at0_mem (xs := picks) h0 h1)
  exact idx_all (by omega) (by omega) hr.2
theorem fitting_ok {s : Scr} {shape : List Int} (hl : (shape.length : Int) = 16) (hp : ∀ x ∈ shape, 0 ≤ x ∧ x < 2520) :
    Ok (m__law_fitting s shape) fun t => ∃ c : Nat, t.a = (c : Int) ∧ c ≤ 15 ∧ Ls c 59 t.b ∧ t.c.length = c ∧ Ls c 59 t.d ∧ t.d.length = t.b.length := by
  unfold m__law_fitting
  simp only [bok]
  refine wp (draw_ok (by omega) (by omega) (by omega)) fun count hcount => ?_
  refine wp (draw_ok (by omega) (by omega) (by omega)) fun many hmany => ?_
  refine wp (P := fun r : Int × Int => (0 ≤ r.1 ∧ r.1 ≤ 15) ∧ (0 ≤ r.2 ∧ r.2 ≤ 59)) (wp (is_ok (by omega) (by omega) (by omega)) fun k _ => ?_) ?_
  · cases k
    · exact show (0 ≤ count ∧ count ≤ 15) ∧ (0 ≤ many ∧ many ≤ 59) from ⟨⟨by omega, by omega⟩, by omega, by omega⟩
    · exact (by decide : ((0 : Int) ≤ 15 ∧ (15 : Int) ≤ 15) ∧ ((0 : Int) ≤ 59 ∧ (59 : Int) ≤ 59))
  rintro ⟨c, m⟩ ⟨hc, hm⟩
  dsimp only at hc hm
  obtain ⟨cn, hcn⟩ := Int.eq_ofNat_of_zero_le hc.1
  obtain ⟨mn, hmn⟩ := Int.eq_ofNat_of_zero_le hm.1
  subst hcn hmn
  dsimp only
  refine wp (P := fun r : Int × Int => (1 ≤ r.1 ∧ r.1 ≤ 60000) ∧ (1 ≤ r.2 ∧ r.2 ≤ 9)) (wp (is_ok (by omega) (by omega) (by omega)) fun k _ => ?_) ?_
  · cases k
    · exact (by decide : ((1 : Int) ≤ 9 ∧ (9 : Int) ≤ 60000) ∧ ((1 : Int) ≤ 9 ∧ (9 : Int) ≤ 9))
    · exact (by decide : ((1 : Int) ≤ 60000 ∧ (60000 : Int) ≤ 60000) ∧ ((1 : Int) ≤ 1 ∧ (1 : Int) ≤ 9))
  rintro ⟨w, near⟩ ⟨hw, hnear⟩
  dsimp only at hw hnear ⊢
  have hcm0 : 0 ≤ (cn : Int) * mn := Int.mul_nonneg (by omega) (by omega)
  have hcm1 : (cn : Int) * mn ≤ 885 := by
    have h1 : (cn : Int) * mn ≤ 15 * mn := mul_le (by omega) (by omega)
    omega
  rw [mul_l (by omega)]
  simp only [bok]
  refine wp (P := fun r : List Int => r.length = cn ∧ ∀ x ∈ r, x.natAbs ≤ 60000) (wp (many2 (by omega) (by omega) (by omega) (by omega) (by omega) (by omega)) fun l hl => (less_ok (by omega) hl.2).mono fun r hr => ⟨by omega, fun x hx => by have := hr.2 x hx; omega⟩) fun numbers hnumbers => ?_
  refine wp (P := fun r : List Int × Int => (r.1.length = cn ∧ ∀ x ∈ r.1, x.natAbs ≤ 60000) ∧ 0 ≤ r.2 ∧ (0 < cn → r.2 < cn)) ?_ ?_
  · by_cases h0 : (0 : Int) < cn
    · rw [if_pos (decide_eq_true h0)]
      refine wp (draw_ok (by omega) (by omega) (by omega)) fun place hpl => ?_
      refine wp (P := fun l : List Int => l.length = cn ∧ ∀ x ∈ l, x.natAbs ≤ 60000) (wp (pick_ok (P := fun u : Int => -1 ≤ u ∧ u ≤ 1) (by omega) (by omega) (by omega) (by decide) (by intro y hy; simp at hy; omega)) fun unit hu => ?_) fun l hl => ⟨hl, hpl.1, fun _ => hpl.2⟩
      rw [setM_ok hpl.1 (by omega)]
      refine ⟨by rw [List.length_set]; exact hnumbers.1, fun x hx => ?_⟩
      rcases List.mem_or_eq_of_mem_set hx with h | h
      · exact hnumbers.2 x h
      · rw [h]; omega
    · rw [if_neg (by simpa using h0)]
      exact ⟨hnumbers, show (0 : Int) ≤ 0 by omega, fun h => by omega⟩
  intro rr hrr
  obtain ⟨ns, place⟩ := rr
  have hns := hrr.1
  have hpl := hrr.2
  clear hrr
  dsimp only at hns hpl ⊢
  rw [mul_l (by omega), mul_l (by omega)]
  simp only [bok]
  refine wp (P := fun r : List Int => (r.length : Int) = (cn : Int) * mn ∧ ∀ x ∈ r, -near ≤ x ∧ x ≤ near) (wp (many2 (by omega) (by omega) hcm0 (by omega) (by omega) (by omega)) fun l hl => (less_ok (by omega) hl.2).mono fun r hr => ⟨by omega, hr.2⟩) fun entries hentries => ?_
  refine wp (many2 (by omega) (by omega) (by omega) (by omega) (by omega) (by omega)) fun picks hpicks => ?_
  rw [guardR_ok (inRange_of (by omega) (by omega))]
  simp only [bok]
  refine wp (P := fun r : List (Str × Tup Int) × List (Str × Tup Int) => Ls cn mn r.1 ∧ Ls cn mn r.2 ∧ r.2.length = r.1.length) ?_ ?_
  · refine (forR_wp (I := fun d (r : List (Str × Tup Int) × List (Str × Tup Int)) => Ls cn d.length r.1 ∧ Ls cn d.length r.2 ∧ r.2.length = r.1.length) (done := []) ⟨Ls.nil _ _, Ls.nil _ _, rfl⟩ ?_).mono ?_
    · rintro d x r ⟨ls, bs⟩ e ⟨h1, h2, h3⟩
      dsimp only at h1 h2 h3 ⊢
      have hx := rng_mem (lo := 0) (hi := (mn : Int)) (x := x) (by have e2 : rng 0 (mn : Int) = d ++ x :: r := e; rw [e2]; simp)
      have hd : d.length < mn := by
        have := congrArg List.length e
        simp only [List.nil_append, rng_len, List.length_append, List.length_cons] at this
        omega
      refine wp (pick_ok (P := SG) hx.1 (by omega) (by omega) (by decide) sg3) fun sign hsign => ?_
      refine wp (P := SG) (by split; exact sg_ge; exact hsign) fun sign2 hsign2 => ?_
      refine wp (table_ok hsign2 rfl (by decide) hx.1 (by omega) hpicks.2) fun above habove => ?_
      refine wp (table_ok hsign2 rfl (by decide) hx.1 (by omega) hpicks.2) fun below hbelow => ?_
      rw [mul_l (by omega)]
      simp only [bok]
      have hxc : 0 ≤ x * (cn : Int) := Int.mul_nonneg hx.1 (by omega)
      have hxc2 : x * (cn : Int) + cn ≤ (cn : Int) * mn := by
        have h1 : (x + 1) * (cn : Int) ≤ (mn : Int) * cn := mul_le (by omega) (by omega)
        rw [Int.add_mul, Int.one_mul] at h1
        rw [Int.mul_comm (cn : Int)]
        exact h1
      have hrow : ((cut entries (some (x * (cn : Int))) (some (x * (cn : Int) + cn))).length = cn) := by
        rw [cut_mid hxc (by omega) (by omega), List.length_take, List.length_drop]
        omega
      have hrs : ∀ z ∈ cut entries (some (x * (cn : Int))) (some (x * (cn : Int) + cn)), -9 ≤ z ∧ z ≤ 9 := fun z hz => by have := hentries.2 z (cut_sub hz); omega
      generalize cut entries (some (x * (cn : Int))) (some (x * (cn : Int) + cn)) = row at hrow hrs
      have hl1 := h1.len
      have hl2 := h2.len
      refine wp (P := fun l => Ls cn (d ++ [x]).length l ∧ l.length = ls.length + 1) (wp (line_ok hsign2 hrs hns.2 (by omega) (by omega) hpl.1 (fun _ => by rw [hrow]; exact hpl.2 (by omega)) habove) fun ln hln => ?_) fun l hl => ?_
      · rw [apn_ok (by rw [sizeLine_eq]; omega)]
        rw [hrow] at hln
        exact ⟨(h1.app (.one hln)).mono (by simp), by simp⟩
      refine wp (P := fun l => Ls cn (d ++ [x]).length l ∧ l.length = bs.length + 1) (wp (line_ok hsign2 hrs hns.2 (by omega) (by omega) hpl.1 (fun _ => by rw [hrow]; exact hpl.2 (by omega)) hbelow) fun ln hln => ?_) fun b hb => ?_
      · rw [apn_ok (by rw [sizeLine_eq]; omega)]
        rw [hrow] at hln
        exact ⟨(h2.app (.one hln)).mono (by simp), by simp⟩
      exact ⟨hl.1, hb.1, by show b.length = l.length; omega⟩
    · rintro ⟨ls, bs⟩ ⟨h1, h2, h3⟩
      simp only [List.nil_append, rng_len] at h1 h2 h3
      exact ⟨h1, h2, h3⟩
  · rintro ⟨ls, bs⟩ ⟨h1, h2, h3⟩
    exact ⟨cn, rfl, by omega, h1.mono (by omega), hns.1, h2.mono (by omega), h3⟩
theorem fit_right_ok {c : Nat} {lines broken : List (Str × Tup Int)} {ns : List Int} (hc : c ≤ 15) (h : Ls c 59 lines) (hb : Ls c 59 broken) (hbl : broken.length = lines.length) (hn : ns.length = c) (at' : Int) (h0 : 0 ≤ at') (h1 : at' ≤ lines.length) : m__law_fit_right (c : Int) lines ns broken at' = .ok true := by
  apply ok_eq
  unfold m__law_fit_right
  simp only [bok]
  have hl := h.len
  rw [fit_judged h (by omega) (by omega), fit_judged (Ls.nil c 0) (by omega) (by omega)]
  simp only [bok, orM_ok, Bool.not_true, Bool.or_self, Bool.false_eq_true, if_false]
  rw [lcX_ok (g := fun ln : Str × Tup Int => (ln.1, (⟨ln.2.l ++ [0]⟩ : Tup Int))) (by rw [sizeLine_eq]; omega) fun ln hln => by
    have := (h.ln ln hln).len
    unfold catT
    rw [guardR_ok (decide_eq_true (by rw [sizeLine_eq]; show ln.2.l.length + 1 ≤ 16777216; omega))]
    simp only [bok]]
  simp only [bok]
  have hw : Ls (c + 1) 59 (lines.map fun ln : Str × Tup Int => (ln.1, (⟨ln.2.l ++ [0]⟩ : Tup Int))) := ⟨by rw [List.length_map]; exact hl, fun x hx => by
    obtain ⟨y, hy, rfl⟩ := List.mem_map.mp hx
    have := h.ln y hy
    refine ⟨this.sg, by show (y.2.l ++ [0]).length = c + 1; rw [List.length_append, this.len]; rfl, fun z hz => ?_⟩
    rcases List.mem_append.mp hz with hz | hz
    · exact this.sm z hz
    · cases List.mem_singleton.mp hz; decide⟩
  rw [show (c : Int) + 1 = ((c + 1 : Nat) : Int) by omega]
  rw [forC_look (xs := [([] : List Int), [0], [0, 0], [5], [-7]])]
  · show Post (Res.bind (Res.bind _ _) _) _ _
    rw [cat_ok (by rw [sizeLine_eq]; simp; omega)]
    simp only [bok]
    rw [fit_judged h (by omega) (by omega)]
    simp only [bok, Bool.not_true, Bool.false_eq_true, if_false]
    by_cases hc0 : (c : Int) = 0
    · rw [if_pos (decide_eq_true hc0)]
      have hc1 : c = 0 := by omega
      subst hc1
      refine wp (put2_ok (x := (Str.ofString ">", ⟨[]⟩)) h ⟨sg_gt, rfl, fun _ h => nomatch h⟩ (by omega) at') fun l hl => ?_
      rw [show (0 : Int) = ((0 : Nat) : Int) from rfl, fit_judged hl (by omega) (by omega)]
      rfl
    · rw [if_neg (by simpa using hc0), guardR_ok (inRange_of (by omega) (by omega))]
      simp only [bok]
      rw [forC_look]
      · rfl
      · intro place hpl
        have hx := rng_mem hpl
        rw [mul_l (by omega)]
        simp only [bok, orM_ok]
        split
        · rw [idx0 hx.1 (by omega)]
          simp only [bok]
          apply ok_eq
          refine wp (P := fun k => k = Ctl.nx ()) (wp (P := fun k => k = false) (wp (P := fun k => k = true) (wp (repl2 h (x := at0 broken place) (hb.ln _ (at0_mem hx.1 (by omega))) (by omega) _ _) fun l hl => by rw [fit_judged hl (by omega) (by omega)]; rfl) fun k hk => by subst hk; rfl) fun k hk => by subst hk; rfl) fun k hk => by subst hk; rfl
        · rfl
  · intro more hmore
    have hm : more.length ≤ 2 := by simp at hmore; rcases hmore with rfl | rfl | rfl | rfl | rfl <;> decide
    rw [cat_ok (by rw [sizeLine_eq]; omega)]
    simp only [bok]
    rw [fit_judged hw (by omega) (by omega)]
    rfl
theorem each_judge_ok (s : Scr) : m__law_each_judge s = .ok true := by
  apply ok_eq
  unfold m__law_each_judge
  simp only [bok]
  refine wp (many2 (by omega) (by omega) (by omega) (by omega) (by omega) (by omega)) fun shape ⟨hl, hp⟩ => ?_
  refine wp (system_ok hl hp) ?_
  rintro ⟨ci, lines, times, place⟩ ⟨c, e, hc, h, ht, hp0, hp1, hbig⟩
  dsimp only at e h ht hp0 hp1 hbig ⊢
  subst e
  have hn := h.len
  refine wp (draw_ok (by omega) (by omega) (by omega)) fun at' hat => ?_
  rw [bal_judged h (by omega) (by omega), times_counted_ok h (by omega) (by omega) (by omega) at']
  simp only [bok, orM_ok, Bool.not_true, Bool.or_self, Bool.false_eq_true, if_false]
  rw [twice_ok h (by omega) (by omega) ht at' hp0 hp1]
  have t2 : (((idxM shape 14).bind fun x => modM x (lines.length : Int)).bind fun a => m__law_twice (c : Int) lines times at' a) = .ok true := ok_eq (wp (draw_ok (by omega) (by omega) (by omega)) fun o ho => by
    rw [twice_ok h (by omega) (by omega) ht at' ho.1 ho.2]
    rfl)
  rw [t2]
  simp only [bok, orM_ok, Bool.not_true, Bool.or_self, Bool.false_eq_true, if_false]
  rw [says_more_ok h (by omega) (by omega) ht hp0 hp1, each_unknown_ok h (by omega) (by omega) hbig hp0 hp1]
  simp only [bok, orM_ok, Bool.not_true, Bool.or_self, Bool.false_eq_true, if_false]
  refine wp (fitting_ok hl hp) ?_
  rintro ⟨ci, ls, ns, bs⟩ ⟨c2, e, hc2, h2, hn2, hb2, hbl⟩
  dsimp only at e h2 hn2 hb2 hbl ⊢
  subst e
  refine wp (draw_ok (by omega) (by omega) (by omega)) fun at2 hat2 => ?_
  rw [fit_right_ok hc2 h2 hb2 hbl hn2 at2 hat2.1 (by omega)]
  rfl
theorem law_true (ns : List Int) (hl : ns.length ≤ 63) (hb : ∀ z ∈ ns, PySem.Builtin.Int.intBits z ≤ 1048576) : m_law ⟨ns⟩ = .ok true := by
  unfold m_law
  rw [each_line_ok, each_judge_ok]
  rfl
end Law

set_option maxHeartbeats 0
namespace Hd
open PySem PySem.Spec L2 Py Lw
def d_value : He.DefD := ⟨("value", none), "value", "value", defArgs (topS 1), defBody (topS 1), defScope (topS 1), [], []⟩
def d_holds : He.DefD := ⟨("holds", none), "holds", "holds", defArgs (topS 2), defBody (topS 2), defScope (topS 2), [], []⟩
def d_fits : He.DefD := ⟨("fits", none), "fits", "fits", defArgs (topS 3), defBody (topS 3), defScope (topS 3), [], []⟩
def d_balances : He.DefD := ⟨("balances", none), "balances", "balances", defArgs (topS 4), defBody (topS 4), defScope (topS 4), [], []⟩
def d_contraries : He.DefD := ⟨("contraries", none), "contraries", "contraries", defArgs (topS 5), defBody (topS 5), defScope (topS 5), [], []⟩
def d__law_is_whole : He.DefD := ⟨("_law_is_whole", none), "_law_is_whole", "_law_is_whole", defArgs (topS 7), defBody (topS 7), defScope (topS 7), [], []⟩
def d__law_cell : He.DefD := ⟨("_law_cell", none), "_law_cell", "_law_cell", defArgs (topS 8), defBody (topS 8), defScope (topS 8), [], []⟩
def d__law_many : He.DefD := ⟨("_law_many", none), "_law_many", "_law_many", defArgs (topS 9), defBody (topS 9), defScope (topS 9), [], []⟩
def d__law_value : He.DefD := ⟨("_law_value", none), "_law_value", "_law_value", defArgs (topS 10), defBody (topS 10), defScope (topS 10), [], []⟩
def d__law_says : He.DefD := ⟨("_law_says", none), "_law_says", "_law_says", defArgs (topS 11), defBody (topS 11), defScope (topS 11), [], []⟩
def d__law_alike : He.DefD := ⟨("_law_alike", none), "_law_alike", "_law_alike", defArgs (topS 12), defBody (topS 12), defScope (topS 12), [], []⟩
def d__law_true : He.DefD := ⟨("_law_true", none), "_law_true", "_law_true", defArgs (topS 13), defBody (topS 13), defScope (topS 13), [], []⟩
def d__law_turned : He.DefD := ⟨("_law_turned", none), "_law_turned", "_law_turned", defArgs (topS 14), defBody (topS 14), defScope (topS 14), [], []⟩
def d__law_contraries : He.DefD := ⟨("_law_contraries", none), "_law_contraries", "_law_contraries", defArgs (topS 15), defBody (topS 15), defScope (topS 15), [], []⟩
def d__law_closed : He.DefD := ⟨("_law_closed", none), "_law_closed", "_law_closed", defArgs (topS 16), defBody (topS 16), defScope (topS 16), [], []⟩
def d__law_told : He.DefD := ⟨("_law_told", none), "_law_told", "_law_told", defArgs (topS 17), defBody (topS 17), defScope (topS 17), [], []⟩
def d__law_line_right : He.DefD := ⟨("_law_line_right", none), "_law_line_right", "_law_line_right", defArgs (topS 18), defBody (topS 18), defScope (topS 18), [], []⟩
def d__law_fits : He.DefD := ⟨("_law_fits", none), "_law_fits", "_law_fits", defArgs (topS 19), defBody (topS 19), defScope (topS 19), [], []⟩
def d__law_balances : He.DefD := ⟨("_law_balances", none), "_law_balances", "_law_balances", defArgs (topS 20), defBody (topS 20), defScope (topS 20), [], []⟩
def d__law_balance_judged : He.DefD := ⟨("_law_balance_judged", none), "_law_balance_judged", "_law_balance_judged", defArgs (topS 21), defBody (topS 21), defScope (topS 21), [], []⟩
def d__law_fit_judged : He.DefD := ⟨("_law_fit_judged", none), "_law_fit_judged", "_law_fit_judged", defArgs (topS 22), defBody (topS 22), defScope (topS 22), [], []⟩
def d__law_system : He.DefD := ⟨("_law_system", none), "_law_system", "_law_system", defArgs (topS 23), defBody (topS 23), defScope (topS 23), [], []⟩
def d__law_put : He.DefD := ⟨("_law_put", none), "_law_put", "_law_put", defArgs (topS 24), defBody (topS 24), defScope (topS 24), [], []⟩
def d__law_times_counted : He.DefD := ⟨("_law_times_counted", none), "_law_times_counted", "_law_times_counted", defArgs (topS 25), defBody (topS 25), defScope (topS 25), [], []⟩
def d__law_twice : He.DefD := ⟨("_law_twice", none), "_law_twice", "_law_twice", defArgs (topS 26), defBody (topS 26), defScope (topS 26), [], []⟩
def d__law_says_more : He.DefD := ⟨("_law_says_more", none), "_law_says_more", "_law_says_more", defArgs (topS 27), defBody (topS 27), defScope (topS 27), [], []⟩
def d__law_each_unknown : He.DefD := ⟨("_law_each_unknown", none), "_law_each_unknown", "_law_each_unknown", defArgs (topS 28), defBody (topS 28), defScope (topS 28), [], []⟩
def d__law_line : He.DefD := ⟨("_law_line", none), "_law_line", "_law_line", defArgs (topS 29), defBody (topS 29), defScope (topS 29), [], []⟩
def d__law_fitting : He.DefD := ⟨("_law_fitting", none), "_law_fitting", "_law_fitting", defArgs (topS 30), defBody (topS 30), defScope (topS 30), [], []⟩
def d__law_fit_right : He.DefD := ⟨("_law_fit_right", none), "_law_fit_right", "_law_fit_right", defArgs (topS 31), defBody (topS 31), defScope (topS 31), [], []⟩
def d__law_each_line : He.DefD := ⟨("_law_each_line", none), "_law_each_line", "_law_each_line", defArgs (topS 32), defBody (topS 32), defScope (topS 32), [], []⟩
def d__law_each_judge : He.DefD := ⟨("_law_each_judge", none), "_law_each_judge", "_law_each_judge", defArgs (topS 33), defBody (topS 33), defScope (topS 33), [], []⟩
def d_law : He.DefD := ⟨("law", none), "law", "law", defArgs (topS 34), defBody (topS 34), defScope (topS 34), [], []⟩
def fn0 : List He.DefD := [d_value, d_holds, d_fits, d_balances, d_contraries, d__law_is_whole, d__law_cell, d__law_many, d__law_value, d__law_says, d__law_alike, d__law_true, d__law_turned, d__law_contraries, d__law_closed, d__law_told, d__law_line_right, d__law_fits, d__law_balances, d__law_balance_judged, d__law_fit_judged, d__law_system, d__law_put, d__law_times_counted, d__law_twice, d__law_says_more, d__law_each_unknown, d__law_line, d__law_fitting, d__law_fit_right]
def fn1 : List He.DefD := [d__law_each_line, d__law_each_judge, d_law]
def fn : List He.DefD := fn0 ++ fn1
def fa0 : List He.Fa := [.glo "value", .glo "holds", .glo "fits", .glo "balances", .glo "contraries", .glo "_law_is_whole", .glo "_law_cell", .glo "_law_many", .glo "_law_value", .glo "_law_says", .glo "_law_alike", .glo "_law_true", .glo "_law_turned", .glo "_law_contraries", .glo "_law_closed", .glo "_law_told", .glo "_law_line_right", .glo "_law_fits", .glo "_law_balances", .glo "_law_balance_judged", .glo "_law_fit_judged", .glo "_law_system", .glo "_law_put", .glo "_law_times_counted", .glo "_law_twice", .glo "_law_says_more", .glo "_law_each_unknown", .glo "_law_line", .glo "_law_fitting", .glo "_law_fit_right"]
def fa1 : List He.Fa := [.glo "_law_each_line", .glo "_law_each_judge", .glo "law", .free "abs", .free "all", .free "bool", .free "int", .free "isinstance", .free "len", .free "list", .free "max", .free "range", .free "str", .free "sum", .free "tuple", .free "zip"]
def fa : List He.Fa := fa0 ++ fa1
def fb (K : PySem.W.Frag) : Bool := true
theorem fx {K : PySem.W.Frag} {h : Heap} {mg : Str → Option Value} (X : K.In h) (G : h.Ns mainGlobals mg) (c : SaysP fb fa fn K) : Fx PySem.Challenge.pw_judgesandtrees_k04_a_line_or_one_contrar K mg where
  d_value := c.says.def_ 0 (d := d_value) rfl
  g_value := He.glo_ok X G (c.says.fact 0 (f := .glo "value") rfl)
  d_holds := c.says.def_ 1 (d := d_holds) rfl
  g_holds := He.glo_ok X G (c.says.fact 1 (f := .glo "holds") rfl)
  d_fits := c.says.def_ 2 (d := d_fits) rfl
  g_fits := He.glo_ok X G (c.says.fact 2 (f := .glo "fits") rfl)
  d_balances := c.says.def_ 3 (d := d_balances) rfl
  g_balances := He.glo_ok X G (c.says.fact 3 (f := .glo "balances") rfl)
  d_contraries := c.says.def_ 4 (d := d_contraries) rfl
  g_contraries := He.glo_ok X G (c.says.fact 4 (f := .glo "contraries") rfl)
  d__law_is_whole := c.says.def_ 5 (d := d__law_is_whole) rfl
  g__law_is_whole := He.glo_ok X G (c.says.fact 5 (f := .glo "_law_is_whole") rfl)
  d__law_cell := c.says.def_ 6 (d := d__law_cell) rfl
  g__law_cell := He.glo_ok X G (c.says.fact 6 (f := .glo "_law_cell") rfl)
  d__law_many := c.says.def_ 7 (d := d__law_many) rfl
  g__law_many := He.glo_ok X G (c.says.fact 7 (f := .glo "_law_many") rfl)
  d__law_value := c.says.def_ 8 (d := d__law_value) rfl
  g__law_value := He.glo_ok X G (c.says.fact 8 (f := .glo "_law_value") rfl)
  d__law_says := c.says.def_ 9 (d := d__law_says) rfl
  g__law_says := He.glo_ok X G (c.says.fact 9 (f := .glo "_law_says") rfl)
  d__law_alike := c.says.def_ 10 (d := d__law_alike) rfl
  g__law_alike := He.glo_ok X G (c.says.fact 10 (f := .glo "_law_alike") rfl)
  d__law_true := c.says.def_ 11 (d := d__law_true) rfl
  g__law_true := He.glo_ok X G (c.says.fact 11 (f := .glo "_law_true") rfl)
  d__law_turned := c.says.def_ 12 (d := d__law_turned) rfl
  g__law_turned := He.glo_ok X G (c.says.fact 12 (f := .glo "_law_turned") rfl)
  d__law_contraries := c.says.def_ 13 (d := d__law_contraries) rfl
  g__law_contraries := He.glo_ok X G (c.says.fact 13 (f := .glo "_law_contraries") rfl)
  d__law_closed := c.says.def_ 14 (d := d__law_closed) rfl
  g__law_closed := He.glo_ok X G (c.says.fact 14 (f := .glo "_law_closed") rfl)
  d__law_told := c.says.def_ 15 (d := d__law_told) rfl
  g__law_told := He.glo_ok X G (c.says.fact 15 (f := .glo "_law_told") rfl)
  d__law_line_right := c.says.def_ 16 (d := d__law_line_right) rfl
  g__law_line_right := He.glo_ok X G (c.says.fact 16 (f := .glo "_law_line_right") rfl)
  d__law_fits := c.says.def_ 17 (d := d__law_fits) rfl
  g__law_fits := He.glo_ok X G (c.says.fact 17 (f := .glo "_law_fits") rfl)
  d__law_balances := c.says.def_ 18 (d := d__law_balances) rfl
  g__law_balances := He.glo_ok X G (c.says.fact 18 (f := .glo "_law_balances") rfl)
  d__law_balance_judged := c.says.def_ 19 (d := d__law_balance_judged) rfl
  g__law_balance_judged := He.glo_ok X G (c.says.fact 19 (f := .glo "_law_balance_judged") rfl)
  d__law_fit_judged := c.says.def_ 20 (d := d__law_fit_judged) rfl
  g__law_fit_judged := He.glo_ok X G (c.says.fact 20 (f := .glo "_law_fit_judged") rfl)
  d__law_system := c.says.def_ 21 (d := d__law_system) rfl
  g__law_system := He.glo_ok X G (c.says.fact 21 (f := .glo "_law_system") rfl)
  d__law_put := c.says.def_ 22 (d := d__law_put) rfl
  g__law_put := He.glo_ok X G (c.says.fact 22 (f := .glo "_law_put") rfl)
  d__law_times_counted := c.says.def_ 23 (d := d__law_times_counted) rfl
  g__law_times_counted := He.glo_ok X G (c.says.fact 23 (f := .glo "_law_times_counted") rfl)
  d__law_twice := c.says.def_ 24 (d := d__law_twice) rfl
  g__law_twice := He.glo_ok X G (c.says.fact 24 (f := .glo "_law_twice") rfl)
  d__law_says_more := c.says.def_ 25 (d := d__law_says_more) rfl
  g__law_says_more := He.glo_ok X G (c.says.fact 25 (f := .glo "_law_says_more") rfl)
  d__law_each_unknown := c.says.def_ 26 (d := d__law_each_unknown) rfl
  g__law_each_unknown := He.glo_ok X G (c.says.fact 26 (f := .glo "_law_each_unknown") rfl)
  d__law_line := c.says.def_ 27 (d := d__law_line) rfl
  g__law_line := He.glo_ok X G (c.says.fact 27 (f := .glo "_law_line") rfl)
  d__law_fitting := c.says.def_ 28 (d := d__law_fitting) rfl
  g__law_fitting := He.glo_ok X G (c.says.fact 28 (f := .glo "_law_fitting") rfl)
  d__law_fit_right := c.says.def_ 29 (d := d__law_fit_right) rfl
  g__law_fit_right := He.glo_ok X G (c.says.fact 29 (f := .glo "_law_fit_right") rfl)
  d__law_each_line := c.says.def_ 30 (d := d__law_each_line) rfl
  g__law_each_line := He.glo_ok X G (c.says.fact 30 (f := .glo "_law_each_line") rfl)
  d__law_each_judge := c.says.def_ 31 (d := d__law_each_judge) rfl
  g__law_each_judge := He.glo_ok X G (c.says.fact 31 (f := .glo "_law_each_judge") rfl)
  d_law := c.says.def_ 32 (d := d_law) rfl
  g_law := He.glo_ok X G (c.says.fact 32 (f := .glo "law") rfl)
  n_abs := He.free_ok X G (c.says.fact 33 (f := .free "abs") rfl)
  n_all := He.free_ok X G (c.says.fact 34 (f := .free "all") rfl)
  n_bool := He.free_ok X G (c.says.fact 35 (f := .free "bool") rfl)
  n_int := He.free_ok X G (c.says.fact 36 (f := .free "int") rfl)
  n_isinstance := He.free_ok X G (c.says.fact 37 (f := .free "isinstance") rfl)
  n_len := He.free_ok X G (c.says.fact 38 (f := .free "len") rfl)
  n_list := He.free_ok X G (c.says.fact 39 (f := .free "list") rfl)
  n_max := He.free_ok X G (c.says.fact 40 (f := .free "max") rfl)
  n_range := He.free_ok X G (c.says.fact 41 (f := .free "range") rfl)
  n_str := He.free_ok X G (c.says.fact 42 (f := .free "str") rfl)
  n_sum := He.free_ok X G (c.says.fact 43 (f := .free "sum") rfl)
  n_tuple := He.free_ok X G (c.says.fact 44 (f := .free "tuple") rfl)
  n_zip := He.free_ok X G (c.says.fact 45 (f := .free "zip") rfl)
end Hd
open PySem PySem.W PyProof.Rows
open_top hd for PySem.Challenge.rw_judgesandtrees_k04_a_line_or_one_contrar
theorem PySem.Challenge.cw_judgesandtrees_k04_a_line_or_one_contrar_holds : PySem.Challenge.rw_judgesandtrees_k04_a_line_or_one_contrar.Holds := by
  refine hd ?_
  refine Py.walk_py (l := PySem.Challenge.rw_judgesandtrees_k04_a_line_or_one_contrar) (n := 63) (k := 14) (x := "script") (f := fun u => Lw.m_law u.1) rfl (by decide) (by kernel_rfl) ⟨rfl, by decide, by decide⟩ (fun ns hl hb => Law.law_true ns hl hb) ?F
  intro w mg fa h Y G hmg0
  have KX := kIn_of Y
  have g := Hd.fx KX G ⟨by kernel_rfl⟩
  have hmg : mg ("law" : PySem.Str) = some (.ref fa) := hmg0
  have e := hmg.symm.trans g.g_law
  cases e
  obtain ⟨fd, hb, hF⟩ := Lw.okL_law (P := (PySem.Challenge.rw_judgesandtrees_k04_a_line_or_one_contrar).prog) (w := w) g
  exact ⟨_, fd, KX, hb, fun base _ _ => hF base⟩
