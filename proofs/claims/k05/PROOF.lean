import PyProof.Rows.All
import HandS.ForMost
import HandS.ForExc
import HandS.Walk
import HandS.Gcd
import HandS.Wide
import HandS.Defaults
import HandS.CallSlots
import HandS.HeadHook2
import HandS.ExcCtx
import HandS.HotCalls
import HandS.IsInst
import HandS.Style
import HandS.Conv
import HandS.SortRule
import HandS.SortInts
import HandS.Deep
import HandS.Head0
import HandS.Head1
import HandS.Head2
import HandS.HeadEnd
import HandS.HeadHook1
import HandS.EndBits
import HandS.ExcInit
import HandS.FStr
import KE.KExcSuper
import HandS.Exc
import HandS.WordsExc
import HandS.ExcField
import HandS.ExcIs
import HandS.TryMany
import HandS.Text
import KE.GoesMore
import HandS.Iter
import HandS.TupAny
import HandS.Zip
import Wide.All
import OpenK.AllK
import Wide.FinOn
import KE.KStateDown
import PySem.Challenge.RW_judgesandtrees_k05_least_cost_of_one_kin
set_option Elab.async false
set_option linter.all false
set_option maxRecDepth 100000
set_option maxHeartbeats 1000000
/-! Py, part A: results, hidden heaps, representations, slots, states. -/
namespace Py
open PySem PySem.Spec L2

/-! ### results -/
/-- what an own error says: its class, its fields -/
structure Ex where
  cls : String
  fs : List (String × PyData)
inductive Res (α : Type) where
  | ok (a : α)
  | err (e : Ex)
  | bad
def Res.bind {α β : Type} : Res α → (α → Res β) → Res β
  | .ok a, f => f a
  | .err e, _ => .err e
  | .bad, _ => .bad
/-- errors shut off -/
def Res.quiet {α : Type} : Res α → Res α
  | .ok a => .ok a
  | _ => .bad
def guardR {α : Type} (c : Bool) (m : Res α) : Res α := if c then m else .bad
def Post {α : Type} (m : Res α) (Q : α → Prop) (E : Ex → Prop) : Prop := match m with
  | .ok a => Q a
  | .err e => E e
  | .bad => False
section
variable {α β : Type} {m : Res α} {f : α → Res β} {Q Q' : α → Prop} {E E' : Ex → Prop} {R : β → Prop}
theorem Post.bind (h : Post (m.bind f) R E) : Post m (fun a => Post (f a) R E) E := by
  cases m <;> exact h
theorem Post.to_bind (h : Post m (fun a => Post (f a) R E) E) : Post (m.bind f) R E := by
  cases m <;> exact h
theorem Post.imp (h : Post m Q E) (hq : ∀ a, Q a → Q' a) (he : ∀ e, E e → E' e) : Post m Q' E' := by
  cases m with
  | ok a => exact hq a h
  | err e => exact he e h
  | bad => exact h
theorem Post.ok {a : α} (h : Q a) : Post (.ok a) Q E := h
theorem Post.guard {c : Bool} (h : Post (guardR c m) Q E) : c = true ∧ Post m Q E := by
  unfold guardR at h
  cases c with
  | true => exact ⟨rfl, h⟩
  | false => exact h.elim
theorem Post.quiet (h : Post m.quiet Q E) : Post m Q E' := by
  cases m with
  | ok a => exact h
  | err e => exact h.elim
  | bad => exact h.elim
theorem bind_ok (a : α) (f : α → Res β) : (Res.ok a).bind f = f a := rfl
theorem bind_bad (f : α → Res β) : (Res.bad).bind f = .bad := rfl
theorem bind_err (e : Ex) (f : α → Res β) : (Res.err e).bind f = .err e := rfl
theorem bind_assoc {γ : Type} (m : Res α) (f : α → Res β) (g : β → Res γ) : (m.bind f).bind g = m.bind fun a => (f a).bind g := by cases m <;> rfl
theorem guard_true (m : Res α) : guardR true m = m := rfl
theorem guard_of {c : Bool} (h : c = true) (m : Res α) : guardR c m = m := by rw [h]; rfl
end

/-! ### a heap with some addresses out of sight -/
def hide (B : List Addr) (H : Hp) : Hp := fun a => if a ∈ B then none else H a
section
variable {B B' : List Addr} {H H' H1 : Hp} {a : Addr} {o : HO}
theorem hide_out (h : a ∉ B) : hide B H a = H a := if_neg h
theorem hide_in (h : a ∈ B) : hide B H a = none := if_pos h
theorem hide_some {b : Addr} (e : hide B H b = some o) : b ∉ B ∧ H b = some o := by
  by_cases h : b ∈ B
  · rw [hide_in h] at e; cases e
  · rw [hide_out h] at e; exact ⟨h, e⟩
theorem hide_same (s : Same H H') : Same (hide B H) (hide B H') := fun b o e => by
  obtain ⟨h1, h2⟩ := hide_some e
  rw [hide_out h1]; exact s b o h2
theorem hide_sub : Same (hide B H) H := fun b o e => (hide_some e).2
theorem hide_mono (h : ∀ a, a ∈ B → a ∈ B') : Same (hide B' H) (hide B H) := fun b o e => by
  obtain ⟨h1, h2⟩ := hide_some e
  rw [hide_out fun z => h1 (h b z)]; exact h2
theorem hide_upd_in (h : a ∈ B) : hide B (upd H a o) = hide B H := by
  funext b
  unfold hide
  by_cases hb : b ∈ B
  · rw [if_pos hb, if_pos hb]
  · rw [if_neg hb, if_neg hb, upd_ne]
    rintro rfl
    exact hb h
theorem hide_cons_new (h : H a = none) : hide (a :: B) H = hide B H := by
  funext b
  unfold hide
  by_cases hb : b ∈ B
  · rw [if_pos hb, if_pos (List.mem_cons_of_mem _ hb)]
  · by_cases e : b = a
    · subst e; rw [if_pos List.mem_cons_self, if_neg hb, h]
    · rw [if_neg hb, if_neg fun z => (List.mem_cons.mp z).elim e hb]
theorem same_upd {p : Addr} {o : HO} (h : H p = none) : Same H (upd H p o) := fun b x e => by
  rw [upd_ne (ne_of_none e h)]; exact e
theorem hide_nil : hide [] H = H := by funext b; exact if_neg List.not_mem_nil
end
theorem dom_same {H H' : Hp} (s : Same H H') {b : Addr} (h : H b ≠ none) : H' b ≠ none := by
  cases e : H b with
  | none => exact absurd e h
  | some o => rw [s b o e]; intro z; cases z

/-! ### what a value stands for -/
class Rp (T : Type) where
  rp : PySem.W.Frag → Hp → V → T → Prop
  mono : ∀ {K : PySem.W.Frag} {H H' : Hp} {v : V} {x : T}, Same H H' → rp K H v x → rp K H' v x
open Rp (rp)
/-- where the heap does not matter -/
class Flat (T : Type) [Rp T] : Prop where
  any : ∀ {K : PySem.W.Frag} {H H' : Hp} {v : V} {x : T}, rp K H v x → rp K H' v x
/-- n values as a tuple's places -/
inductive AV : Type 1 where
  | mk (T : Type) [Rp T] (x : T)
abbrev av {T : Type} [Rp T] (x : T) : AV := .mk T x
def AV.rp (K : PySem.W.Frag) (H : Hp) (v : V) : AV → Prop
  | @AV.mk T inst x => @Rp.rp T inst K H v x
theorem AV.mono {K : PySem.W.Frag} {H H' : Hp} {v : V} {x : AV} (s : Same H H') (h : x.rp K H v) : x.rp K H' v := by
  cases x with
  | @mk T inst y => exact @Rp.mono T inst K H H' v y s h
inductive ArgsR (K : PySem.W.Frag) (H : Hp) : List V → List AV → Prop where
  | nil : ArgsR K H [] []
  | cons {v : V} {vs : List V} {x : AV} {xs : List AV} : AV.rp K H v x → ArgsR K H vs xs → ArgsR K H (v :: vs) (x :: xs)
theorem Paired.imp2 {α β : Type} {F G : α → β → Prop} : ∀ {xs : List α} {ys : List β}, Paired F xs ys → (∀ a b, F a b → G a b) → Paired G xs ys
  | _, _, .nil, _ => .nil
  | _, _, .cons r t, f => .cons (f _ _ r) (Paired.imp2 t f)
theorem ArgsR.mono {K : PySem.W.Frag} {H H' : Hp} {vs : List V} {xs : List AV} (s : Same H H') (h : ArgsR K H vs xs) : ArgsR K H' vs xs := by
  induction h with
  | nil => exact .nil
  | cons r _ ih => exact .cons (AV.mono s r) ih
abbrev RpAll {T : Type} [Rp T] (K : PySem.W.Frag) (H : Hp) : List V → List T → Prop := Paired (Rp.rp K H)
theorem RpAll.mono {T : Type} [Rp T] {K : PySem.W.Frag} {H H' : Hp} {vs : List V} {xs : List T} (s : Same H H') (h : RpAll K H vs xs) : RpAll K H' vs xs := Paired.imp2 h fun _ _ => Rp.mono s
theorem SqT.same {K : PySem.W.Frag} {H H' : Hp} {a : Addr} {xs : List V} (e : Same H H') (h : SqT K H a xs) : SqT K H' a xs := by
  rcases h with (h | ⟨o, h⟩) | h
  · exact .inl (.inl (e _ _ h))
  · exact .inl (.inr ⟨o, e _ _ h⟩)
  · exact .inr h

instance : Rp Int where
  rp _ _ v x := v = .int x
  mono _ h := h
instance : Flat Int := ⟨fun h => h⟩
instance : Rp Bool where
  rp _ _ v x := v = .bl x
  mono _ h := h
instance : Flat Bool := ⟨fun h => h⟩
instance : Rp Str where
  rp _ _ v x := v = .str x
  mono _ h := h
instance : Flat Str := ⟨fun h => h⟩
instance : Rp Unit where
  rp _ _ v _ := v = .non
  mono _ h := h
instance : Flat Unit := ⟨fun h => h⟩
instance {T : Type} [Rp T] : Rp (Option T) where
  rp K H v x := match x with
    | none => v = .non
    | some y => rp K H v y ∧ v ≠ .non
  mono {K H H' v x} s h := by
    cases x with
    | none => exact h
    | some y => exact ⟨Rp.mono s h.1, h.2⟩
instance {T : Type} [Rp T] [Flat T] : Flat (Option T) := ⟨fun {K H H' v x} h => by
  cases x with
  | none => exact h
  | some y => exact ⟨Flat.any h.1, h.2⟩⟩
instance {T : Type} [Rp T] : Rp (List T) where
  rp K H v x := ∃ a vs, v = .ref a ∧ H a = some (.lst vs) ∧ RpAll K H vs x
  mono {K H H' v x} s h := by
    obtain ⟨a, vs, e, h1, h2⟩ := h
    exact ⟨a, vs, e, s _ _ h1, RpAll.mono s h2⟩
/-- a tuple of any length, its items of one kind -/
structure Tup (T : Type) where
  l : List T
instance {T : Type} [Rp T] : Rp (Tup T) where
  rp K H v x := ∃ a vs, v = .ref a ∧ SqT K H a vs ∧ RpAll K H vs x.l
  mono {K H H' v x} s h := by
    obtain ⟨a, vs, e, h1, h2⟩ := h
    exact ⟨a, vs, e, SqT.same s h1, RpAll.mono s h2⟩
/-- tuples with a fixed number of places: by their places -/
class Places (T : Type) where
  av : T → List AV
/-- a tuple by its places -/
def rpT {T : Type} [Places T] (K : PySem.W.Frag) (H : Hp) (v : V) (x : T) : Prop := ∃ a vs, v = .ref a ∧ SqT K H a vs ∧ ArgsR K H vs (Places.av x)
theorem rpT.mono {T : Type} [Places T] {K : PySem.W.Frag} {H H' : Hp} {v : V} {x : T} (s : Same H H') (h : rpT K H v x) : rpT K H' v x := by
  obtain ⟨a, vs, e, h1, h2⟩ := h
  exact ⟨a, vs, e, SqT.same s h1, ArgsR.mono s h2⟩
instance (priority := low) {T : Type} [Places T] : Rp T where
  rp := rpT
  mono := rpT.mono
instance {A B : Type} [Rp A] [Rp B] : Places (A × B) := ⟨fun x => [av x.1, av x.2]⟩
/-- arguments one behind the other -/
def asN : Unit → List AV := fun _ => []
def asC {T : Type} [Rp T] {A : Type} (as : A → List AV) : T × A → List AV := fun p => av p.1 :: as p.2
structure T3 (A B C : Type) where
  (a : A) (b : B) (c : C)
instance {A B C : Type} [Rp A] [Rp B] [Rp C] : Places (T3 A B C) := ⟨fun x => [av x.a, av x.b, av x.c]⟩
structure T4 (A B C D : Type) where
  (a : A) (b : B) (c : C) (d : D)
instance {A B C D : Type} [Rp A] [Rp B] [Rp C] [Rp D] : Places (T4 A B C D) := ⟨fun x => [av x.a, av x.b, av x.c, av x.d]⟩
structure T5 (A B C D E : Type) where
  (a : A) (b : B) (c : C) (d : D) (e : E)
instance {A B C D E : Type} [Rp A] [Rp B] [Rp C] [Rp D] [Rp E] : Places (T5 A B C D E) := ⟨fun x => [av x.a, av x.b, av x.c, av x.d, av x.e]⟩
/-- the law's script -/
structure Scr where
  ns : List Int
instance : Rp Scr where
  rp K H v x := ∃ a, v = .ref a ∧ SqL K H a (x.ns.map V.int)
  mono {K H H' v x} s h := by
    obtain ⟨a, e, h1⟩ := h
    exact ⟨a, e, s.seq h1⟩

/-! ### things of many lists, kept: what stands where -/
inductive OV : Type 1 where
  | val (T : Type) [Rp T] (x : T)
  | lst (T : Type) [Rp T] (xs : List T)
  | tup (os : List OV)
  | lol (os : List OV)
mutual
inductive Ow (K : PySem.W.Frag) (Hs H : Hp) : V → OV → List Addr → Prop where
  | val {T : Type} [Rp T] {x : T} {v : V} : rp K Hs v x → Ow K Hs H v (.val T x) []
  | lst {T : Type} [Rp T] {xs : List T} {a : Addr} {vs : List V} : H a = some (.lst vs) → RpAll K Hs vs xs → Ow K Hs H (.ref a) (.lst T xs) [a]
  | tup {os : List OV} {a : Addr} {vs : List V} {bs : List Addr} : SqT K Hs a vs → Ows K Hs H vs os bs → Ow K Hs H (.ref a) (.tup os) bs
  | lol {os : List OV} {a : Addr} {vs : List V} {bs : List Addr} : H a = some (.lst vs) → Ows K Hs H vs os bs → Ow K Hs H (.ref a) (.lol os) (a :: bs)
inductive Ows (K : PySem.W.Frag) (Hs H : Hp) : List V → List OV → List Addr → Prop where
  | nil : Ows K Hs H [] [] []
  | cons {v : V} {vs : List V} {o : OV} {os : List OV} {bs cs : List Addr} : Ow K Hs H v o bs → Ows K Hs H vs os cs → Ows K Hs H (v :: vs) (o :: os) (bs ++ cs)
end
mutual
theorem Ow.mono {K : PySem.W.Frag} {Hs H Hs' H' : Hp} (s1 : Same Hs Hs') {v : V} {o : OV} {bs : List Addr} (s2 : ∀ a ∈ bs, ∀ o, H a = some o → H' a = some o) (h : Ow K Hs H v o bs) : Ow K Hs' H' v o bs := by
  cases h with
  | val h => exact .val (Rp.mono s1 h)
  | lst e h => exact .lst (s2 _ List.mem_cons_self _ e) (RpAll.mono s1 h)
  | tup e h => exact .tup (SqT.same s1 e) (Ows.mono s1 s2 h)
  | lol e h => exact .lol (s2 _ List.mem_cons_self _ e) (Ows.mono s1 (fun a ha => s2 a (List.mem_cons_of_mem _ ha)) h)
theorem Ows.mono {K : PySem.W.Frag} {Hs H Hs' H' : Hp} (s1 : Same Hs Hs') {vs : List V} {os : List OV} {bs : List Addr} (s2 : ∀ a ∈ bs, ∀ o, H a = some o → H' a = some o) (h : Ows K Hs H vs os bs) : Ows K Hs' H' vs os bs := by
  cases h with
  | nil => exact .nil
  | cons h t => exact .cons (Ow.mono s1 (fun a ha => s2 a (List.mem_append_left _ ha)) h) (Ows.mono s1 (fun a ha => s2 a (List.mem_append_right _ ha)) t)
end

/-! ### slots, states -/
inductive Slot : Type 1 where
  | non
  | ow (o : OV)
  | val (T : Type) [Rp T] (x : T)
  | own (T : Type) [Rp T] (ao : Option Addr) (xs : List T)
inductive Rs (K : PySem.W.Frag) (Hs H : Hp) : List Slot → St → List Addr → Prop where
  | nil : Rs K Hs H [] [] []
  | non {ρ : List Slot} {σ : St} {as : List Addr} {o : Option V} : Rs K Hs H ρ σ as → Rs K Hs H (.non :: ρ) (o :: σ) as
  | val {ρ : List Slot} {σ : St} {as : List Addr} {T : Type} [Rp T] {x : T} {v : V} : rp K Hs v x → Rs K Hs H ρ σ as → Rs K Hs H (.val T x :: ρ) (some v :: σ) as
  | own {ρ : List Slot} {σ : St} {as : List Addr} {T : Type} [Rp T] {ao : Option Addr} {xs : List T} {a : Addr} {vs : List V} : (∀ b, ao = some b → b = a) → H a = some (.lst vs) → RpAll K Hs vs xs → Rs K Hs H ρ σ as →
      Rs K Hs H (.own T ao xs :: ρ) (some (.ref a) :: σ) (a :: as)
  | ow {ρ : List Slot} {σ : St} {as bs : List Addr} {o : OV} {v : V} : Ow K Hs H v o bs → Rs K Hs H ρ σ as → Rs K Hs H (.ow o :: ρ) (some v :: σ) (bs ++ as)
/-- the slots hold what ρ says; S: what callers keep for themselves; as: what is kept here; ads: the addresses of the kept slots -/
structure RS (K : PySem.W.Frag) (S : List Addr) (ρ : List Slot) (σ : St) (H : Hp) (as : List Addr) : Prop where
  rs : ∃ ads, Rs K (hide (S ++ as) H) H ρ σ ads ∧ ads.Nodup ∧ ∀ a ∈ ads, a ∈ as
  out : ∀ a ∈ as, a ∉ S
  dom : ∀ a ∈ S ++ as, H a ≠ none
section
variable {K : PySem.W.Frag} {S as as' : List Addr} {ρ : List Slot} {σ : St} {H H' Hs Hs' : Hp} {ads : List Addr}
theorem Rs.mono (r : Rs K Hs H ρ σ ads) (s1 : Same Hs Hs') (s2 : ∀ a ∈ ads, ∀ o, H a = some o → H' a = some o) : Rs K Hs' H' ρ σ ads := by
  induction r with
  | nil => exact .nil
  | @non ρ σ as o _ ih => exact Rs.non (o := o) (ih s2)
  | val h _ ih => exact .val (Rp.mono s1 h) (ih s2)
  | own h0 h1 h2 _ ih => exact .own h0 (s2 _ List.mem_cons_self _ h1) (RpAll.mono s1 h2) (ih fun a ha => s2 a (List.mem_cons_of_mem _ ha))
  | ow h _ ih => exact .ow (h.mono s1 fun a ha => s2 a (List.mem_append_left _ ha)) (ih fun a ha => s2 a (List.mem_append_right _ ha))
theorem Rs.length (r : Rs K Hs H ρ σ ads) : σ.length = ρ.length := by
  induction r with
  | nil => rfl
  | non _ ih => simp [ih]
  | val _ _ ih => simp [ih]
  | own _ _ _ _ ih => simp [ih]
  | ow _ _ ih => simp [ih]
theorem RS.mono (r : RS K S ρ σ H as) (s : Same H H') : RS K S ρ σ H' as := by
  obtain ⟨⟨ads, h1, h2, h3⟩, h4, h5⟩ := r
  exact ⟨⟨ads, h1.mono (hide_same s) fun a _ o e => s a o e, h2, h3⟩, h4, fun a ha => dom_same s (h5 a ha)⟩
theorem Rs.val_at (r : Rs K Hs H ρ σ ads) : ∀ {i : Nat} {T : Type} {inst : Rp T} {x : T}, ρ[i]? = some (@Slot.val T inst x) → ∃ v, σ[i]? = some (some v) ∧ rp K Hs v x := by
  induction r with
  | nil => intro i T inst x e; cases e
  | non _ ih =>
    intro i T inst x e
    cases i with
    | zero => cases e
    | succ i => exact ih e
  | val h _ ih =>
    intro i T inst x e
    cases i with
    | zero => cases e; exact ⟨_, rfl, h⟩
    | succ i => exact ih e
  | own _ _ _ _ ih =>
    intro i T inst x e
    cases i with
    | zero => cases e
    | succ i => exact ih e
  | ow _ _ ih =>
    intro i T inst x e
    cases i with
    | zero => cases e
    | succ i => exact ih e
theorem Rs.own_at (r : Rs K Hs H ρ σ ads) : ∀ {i : Nat} {T : Type} {inst : Rp T} {ao : Option Addr} {xs : List T}, ρ[i]? = some (@Slot.own T inst ao xs) →
    ∃ a vs, σ[i]? = some (some (.ref a)) ∧ a ∈ ads ∧ H a = some (.lst vs) ∧ RpAll K Hs vs xs ∧ ∀ b, ao = some b → b = a := by
  induction r with
  | nil => intro i T inst ao x e; cases e
  | non _ ih =>
    intro i T inst ao x e
    cases i with
    | zero => cases e
    | succ i => exact ih e
  | val h _ ih =>
    intro i T inst ao x e
    cases i with
    | zero => cases e
    | succ i => exact ih e
  | own h0 h1 h2 _ ih =>
    intro i T inst ao x e
    cases i with
    | zero => cases e; exact ⟨_, _, rfl, List.mem_cons_self, h1, h2, h0⟩
    | succ i =>
      obtain ⟨a, vs, e1, e2, e3, e4, e5⟩ := ih e
      exact ⟨a, vs, e1, List.mem_cons_of_mem _ e2, e3, e4, e5⟩
  | ow _ _ ih =>
    intro i T inst ao x e
    cases i with
    | zero => cases e
    | succ i =>
      obtain ⟨a, vs, e1, e2, e3, e4, e5⟩ := ih e
      exact ⟨a, vs, e1, List.mem_append_right _ e2, e3, e4, e5⟩
end

/-- what stands behind: all that was is as it was but what was kept; what is kept is new or was kept -/
structure Ext (as : List Addr) (H : Hp) (as' : List Addr) (H' : Hp) : Prop where
  same : ∀ b o, H b = some o → b ∉ as → H' b = some o
  dom : ∀ b, H b ≠ none → H' b ≠ none
  own : ∀ a ∈ as', a ∈ as ∨ H a = none
section
variable {as as1 as2 : List Addr} {H H1 H2 : Hp}
theorem Ext.of_same (s : Same H H1) : Ext as H as H1 := ⟨fun b o e _ => s b o e, fun b h => dom_same s h, fun a h => .inl h⟩
theorem Ext.refl : Ext as H as H := Ext.of_same (Same.refl H)
theorem Ext.trans (a : Ext as H as1 H1) (b : Ext as1 H1 as2 H2) : Ext as H as2 H2 where
  same c o e h := b.same c o (a.same c o e h) fun z => by
    rcases a.own c z with q | q
    · exact h q
    · rw [q] at e; cases e
  dom c h := b.dom c (a.dom c h)
  own c h := by
    rcases b.own c h with q | q
    · exact a.own c q
    · refine .inr ?_
      cases e : H c with
      | none => rfl
      | some o => exact absurd q (a.dom c (by rw [e]; intro z; cases z))
theorem Ext.nil_same (e : Ext [] H as1 H1) : Same H H1 := fun b o h => e.same b o h List.not_mem_nil
/-- what is in sight stays in sight -/
theorem Ext.sight {S : List Addr} (e : Ext as H as1 H1) (hS : ∀ a ∈ as1, H a = none → True) : Same (hide (S ++ as) H) (hide (S ++ as1) H1) := fun b o h => by
  obtain ⟨h1, h2⟩ := hide_some h
  have n1 : b ∉ S := fun z => h1 (List.mem_append_left _ z)
  have n2 : b ∉ as := fun z => h1 (List.mem_append_right _ z)
  have n3 : b ∉ as1 := fun z => by
    rcases e.own b z with q | q
    · exact n2 q
    · rw [q] at h2; cases h2
  rw [hide_out fun z => (List.mem_append.mp z).elim n1 n3]
  exact e.same b o h2 n2
end
end Py

set_option Elab.async false
set_option linter.all false
set_option maxRecDepth 100000
set_option maxHeartbeats 1000000
/-! Py, part B: judgements of expressions, tests, arguments; the rules. -/
namespace Py
open PySem PySem.Spec L2
open Rp (rp)

structure CtxOk (X : Cx) (W : WX) (lv : Nat) : Prop where
  calm : X.calm = true
  nd : X.N.Nodup
  tk : L2N.Takes X W
  po : PassesOwn (model X.prog X.w) X.A X.env X.xe
  room : Room lv X.A

/-- an own error, as it stands -/
def ExR (K : PySem.W.Frag) (H : Hp) (c : Value) (d : Option Addr) (e : Ex) : Prop :=
  c = .ref (He.ga K (Str.ofString e.cls)) ∧ ∃ dx fs, d = some dx ∧ H dx = some (.xd fs) ∧ Paired (fun (p : Str × V) (q : String × PyData) => p.1 = Str.ofString q.1 ∧ Dp K H p.2 q.2) fs e.fs
def ErrX (X : Cx) (W : WX) (S own : List Addr) (σ : St) (H : Hp) (e : Ex) : Prop := ∀ H' c d, Same H H' → ExR X.K (hide (S ++ own) H') c d e → W c d σ H'
theorem ErrX.mono {X : Cx} {W : WX} {S own : List Addr} {σ : St} {H H1 : Hp} {e : Ex} (h : ErrX X W S own σ H e) (s : Same H H1) : ErrX X W S own σ H1 e := fun H' c d s1 x => h H' c d (s.trans s1) x

/-- what is in sight of a value: all that is kept is out of sight, or only what the callers keep -/
def reg (g : Bool) (S own : List Addr) : List Addr := if g then S ++ own else S
theorem reg_sub {g : Bool} {S own : List Addr} : ∀ a, a ∈ reg g S own → a ∈ S ++ own := fun a h => by
  cases g with
  | true => exact h
  | false => exact List.mem_append_left _ h
theorem S_sub_reg {g : Bool} {S own : List Addr} : ∀ a, a ∈ S → a ∈ reg g S own := fun a h => by
  cases g with
  | true => exact List.mem_append_left _ h
  | false => exact h

abbrev EGp (X : Cx) (W : WX) (g : Bool) (ρ : List Slot) (t : TE) {T : Type} [Rp T] (m : Res T) : Prop :=
  ∀ (S own : List Addr) (σ : St) (H : Hp) (Q : VK), RS X.K S ρ σ H own → Post m (fun x => ∀ H' v, Same H H' → rp X.K (hide (reg g S own) H') v x → Q v H') (ErrX X W S own σ H) → t σ H Q
structure EG (X : Cx) (W : WX) (g : Bool) (ρ : List Slot) (e : Expr) {T : Type} [Rp T] (m : Res T) : Prop where
  ex : ∃ t, PE X e t ∧ EGp X W g ρ t m
abbrev EJ (X : Cx) (W : WX) (ρ : List Slot) (e : Expr) {T : Type} [Rp T] (m : Res T) : Prop := EG X W true ρ e m
abbrev EB (X : Cx) (W : WX) (ρ : List Slot) (e : Expr) {T : Type} [Rp T] (m : Res T) : Prop := EG X W false ρ e m

abbrev TJp (X : Cx) (W : WX) (ρ : List Slot) (t : TT) (m : Res Bool) : Prop :=
  ∀ (S own : List Addr) (σ : St) (H : Hp) (Q : Bool → Hp → Prop), RS X.K S ρ σ H own → Post m (fun b => ∀ H', Same H H' → Q b H') (ErrX X W S own σ H) → t σ H Q
structure TJ (X : Cx) (W : WX) (ρ : List Slot) (e : Expr) (m : Res Bool) : Prop where
  ex : ∃ t, PT X e t ∧ TJp X W ρ t m
structure TWJ (X : Cx) (W : WX) (ρ : List Slot) (e : Expr) (m : Res Bool) : Prop where
  ex : ∃ t, PW X e t ∧ TJp X W ρ t m

/-- a comparison -/
structure CJ (X : Cx) (W : WX) (ρ : List Slot) (op : CmpOp) (a b : Expr) (m : Res Bool) : Prop where
  ex : ∃ (r : R2) (ta tb : TE), OpR X (compareOp op) r ∧ behindInMarks op b = false ∧ PE X a ta ∧ PE X b tb ∧
    ∀ (S own : List Addr) (σ : St) (H : Hp) (Q : Bool → Hp → Prop) (R : V → Hp → Prop), RS X.K S ρ σ H own → Post m (fun x => ∀ H', Same H H' → Q x H') (ErrX X W S own σ H) → (∀ z H', Q z H' → R (.bl z) H') → tOp r ta tb σ H R
abbrev AJp (X : Cx) (W : WX) (g : Bool) (ρ : List Slot) (t : TA) {A R : Type} (as : A → List AV) (k : A → Res R) (m : Res R) : Prop :=
  ∀ (S own : List Addr) (σ : St) (H : Hp) (Q : List V → Hp → Prop) (P : R → Prop) (E : Ex → Prop), RS X.K S ρ σ H own → (∀ e, E e → ErrX X W S own σ H e) → Post m P E →
    (∀ x vs H', Same H H' → ArgsR X.K (hide (reg g S own) H') vs (as x) → Post (k x) P E → Q vs H') → t σ H Q
/-- arguments, evaluated ahead of k -/
structure AJ (X : Cx) (W : WX) (g : Bool) (ρ : List Slot) (es : List Expr) {A R : Type} (as : A → List AV) (k : A → Res R) (m : Res R) : Prop where
  ex : ∃ t, PA X es t ∧ AJp X W g ρ t as k m

section
variable {X : Cx} {W : WX} {g : Bool} {ρ : List Slot} {T A B C R : Type} [Rp T] [Rp A] [Rp B] [Rp C] [Rp R] {a b e : Expr} {pos : Pos} {lv : Nat}
theorem EG.borrow {m : Res T} (h : EG X W true ρ e m) : EG X W false ρ e m := by
  obtain ⟨t, p, q⟩ := h.ex
  refine ⟨t, p, fun S own σ H Q rs hp => q S own σ H Q rs (hp.imp (fun x hx H' v s r => hx H' v s (Rp.mono (hide_mono fun z hz => List.mem_append_left _ hz) r)) fun _ z => z)⟩
theorem EG.of_eq {m m' : Res T} (h : EG X W g ρ e m) (z : m = m') : EG X W g ρ e m' := z ▸ h
/-- a flat value is in sight everywhere -/
theorem EG.flat [Flat T] {g' : Bool} {m : Res T} (h : EG X W g ρ e m) : EG X W g' ρ e m := by
  obtain ⟨t, p, q⟩ := h.ex
  exact ⟨t, p, fun S own σ H Q rs hp => q S own σ H Q rs (hp.imp (fun x hx H' v s r => hx H' v s (Flat.any r)) fun _ z => z)⟩

/-! ### two parts, one part -/
theorem one_run {ga : Bool} {ta : TE} {ma : Res A} {f : A → Res C} {P : C → Prop} {S own : List Addr} {σ : St} {H : Hp} {R' : V → Hp → Prop} (ha : EGp X W ga ρ ta ma) (rs : RS X.K S ρ σ H own)
    (h : Post (ma.bind f) P (ErrX X W S own σ H)) (k : ∀ x v H', Same H H' → rp X.K (hide (reg ga S own) H') v x → Post (f x) P (ErrX X W S own σ H) → R' v H') : ta σ H R' :=
  ha S own σ H _ rs (h.bind.imp (fun x hx H1 v s1 r1 => k x v H1 s1 r1 hx) fun _ z => z)
theorem two_run {ga gb : Bool} {ta tb : TE} {ma : Res A} {mb : Res B} {f : A → B → Res C} {P : C → Prop} {S own : List Addr} {σ : St} {H : Hp} {R' : V → V → Hp → Prop} (ha : EGp X W ga ρ ta ma) (hb : EGp X W gb ρ tb mb) (rs : RS X.K S ρ σ H own)
    (h : Post (ma.bind fun x => mb.bind (f x)) P (ErrX X W S own σ H))
    (k : ∀ x y v u H', Same H H' → rp X.K (hide (reg ga S own) H') v x → rp X.K (hide (reg gb S own) H') u y → Post (f x y) P (ErrX X W S own σ H) → R' v u H') : ta σ H fun v H1 => tb σ H1 fun u H2 => R' v u H2 :=
  ha S own σ H _ rs (h.bind.imp (fun x hx H1 v s1 r1 => hb S own σ H1 _ (rs.mono s1) (hx.bind.imp (fun y hy H2 u s2 r2 => k x y v u H2 (s1.trans s2) (Rp.mono (hide_same s2) r1) r2 hy) fun _ z => z.mono s1)) fun _ z => z)

/-- an operator on two parts whose reading r leaves the heap and hands back a flat value -/
theorem e_binR {op : Operator} {r : R2} {f : A → B → Res C} [Flat C] {ma : Res A} {mb : Res B} (ho : OpR X (binaryOp op) r) (ha : EG X W true ρ a ma) (hb : EG X W true ρ b mb)
    (hr : ∀ (B1 B2 : List Addr) (H : Hp) (x : A) (y : B) (v u : V) (Q : VK), rp X.K (hide B1 H) v x → rp X.K (hide B2 H) u y → Post (f x y) (fun z => ∀ w', rp X.K H w' z → Q w' H) (fun _ => True) → r v u H Q)
    (hne : ∀ x y e, f x y ≠ .err e) : EG X W g ρ (.BinOp a op b pos) (ma.bind fun x => mb.bind (f x)) := by
  obtain ⟨ta, pa, qa⟩ := ha.ex
  obtain ⟨tb, pb, qb⟩ := hb.ex
  refine ⟨_, pe_op ho pa pb, fun S own σ H Q rs h => two_run qa qb rs h fun x y v u H2 s r1 r2 hp => hr _ _ H2 x y v u Q r1 r2 (hp.imp (fun z hz w' rw' => hz H2 w' s (Flat.any rw')) fun _ _ => trivial)⟩
theorem e_cmpR {op : CmpOp} {r : R2} {f : A → B → Res Bool} {ga gb : Bool} {ma : Res A} {mb : Res B} (ho : OpR X (compareOp op) r) (hm : behindInMarks op b = false) (ha : EG X W ga ρ a ma) (hb : EG X W gb ρ b mb)
    (hr : ∀ (B1 B2 : List Addr) (H : Hp) (x : A) (y : B) (v u : V) (Q : VK), rp X.K (hide B1 H) v x → rp X.K (hide B2 H) u y → Post (f x y) (fun z => Q (.bl z) H) (fun _ => True) → r v u H Q) :
    CJ X W ρ op a b (ma.bind fun x => mb.bind (f x)) := by
  obtain ⟨ta, pa, qa⟩ := ha.ex
  obtain ⟨tb, pb, qb⟩ := hb.ex
  refine ⟨r, ta, tb, ho, hm, pa, pb, fun S own σ H Q R rs h hR => two_run qa qb rs h fun x y v u H2 s r1 r2 hp => hr _ _ H2 x y v u R r1 r2 (hp.imp (fun z hz => hR z H2 (hz H2 s)) fun _ _ => trivial)⟩
theorem CJ.v {op : CmpOp} {m : Res Bool} (h : CJ X W ρ op a b m) : EG X W g ρ (.Compare a [op] [b] pos) m := by
  obtain ⟨r, ta, tb, ho, hm, pa, pb, q⟩ := h.ex
  exact ⟨_, pe_cmpR ho pa pb hm, fun S own σ H Q rs h => q S own σ H (fun z H' => Q (.bl z) H') Q rs (h.imp (fun x hx H' s => hx H' _ s rfl) fun _ z => z) fun z H' hz => hz⟩
theorem CJ.t {op : CmpOp} {m : Res Bool} (h : CJ X W ρ op a b m) : TJ X W ρ (.Compare a [op] [b] pos) m := by
  obtain ⟨r, ta, tb, ho, hm, pa, pb, q⟩ := h.ex
  exact ⟨_, pt_cmpR ho pa pb hm, fun S own σ H Q rs h => q S own σ H Q _ rs h fun z H' hz => ⟨z, rfl, hz⟩⟩
theorem CJ.of_eq {op : CmpOp} {m m' : Res Bool} (h : CJ X W ρ op a b m) (z : m = m') : CJ X W ρ op a b m' := z ▸ h

/-! ### names, constants -/
theorem e_var (i : Nat) {x : Str} {v : T} (hr : ρ[i]? = some (Slot.val T v) := by rfl) (hN : X.N[i]? = some x := by rfl) (hv : Vis X.env.scope x := by first | exact Or.inl rfl | exact Or.inr (Or.inl rfl) | exact Or.inr (Or.inr rfl))
    (hd : (x == ("__debug__" : Str)) = false := by decide) (hcd : (x == ("__classdict__" : Str)) = false := by decide) : EG X W g ρ (.Name x pos) (.ok v) := by
  refine ⟨_, pe_var hN hv hd hcd, fun S own σ H Q rs h => ?_⟩
  obtain ⟨ads, r, _, _⟩ := rs.rs
  obtain ⟨u, e, q⟩ := r.val_at hr
  exact ⟨u, e, h H u (Same.refl H) (Rp.mono (hide_mono reg_sub) q)⟩
/-- a kept list, lent -/
theorem e_own (i : Nat) {x : Str} {ao : Option Addr} {xs : List T} (hr : ρ[i]? = some (Slot.own T ao xs) := by rfl) (hN : X.N[i]? = some x := by rfl) (hv : Vis X.env.scope x := by first | exact Or.inl rfl | exact Or.inr (Or.inl rfl) | exact Or.inr (Or.inr rfl))
    (hd : (x == ("__debug__" : Str)) = false := by decide) (hcd : (x == ("__classdict__" : Str)) = false := by decide) : EG X W false ρ (.Name x pos) (.ok xs) := by
  refine ⟨_, pe_var hN hv hd hcd, fun S own σ H Q rs h => ?_⟩
  obtain ⟨ads, r, _, h3⟩ := rs.rs
  obtain ⟨a, vs, e, e1, e2, e3, _⟩ := r.own_at hr
  refine ⟨_, e, h H (.ref a) (Same.refl H) ⟨a, vs, rfl, ?_, RpAll.mono (hide_mono fun z hz => List.mem_append_left _ hz) e3⟩⟩
  show hide S H a = _
  rw [hide_out (rs.out a (h3 a e1))]
  exact e2
theorem e_const {v : V} {x : T} {e : Expr} (p : PE X e (tC v)) (h : ∀ H, rp X.K H v x) : EG X W g ρ e (.ok x) :=
  ⟨_, p, fun S own σ H Q rs q => q H v (Same.refl H) (h _)⟩
theorem e_int {i : Int} {j} : EG X W g ρ (.Constant (.int i) j pos) (.ok i) := e_const pe_int fun _ => rfl
theorem e_bool {i : Bool} {j} : EG X W g ρ (.Constant (.bool i) j pos) (.ok i) := e_const pe_bl fun _ => rfl
theorem e_str {i : Str} {j} : EG X W g ρ (.Constant (.str i) j pos) (.ok i) := e_const pe_str fun _ => rfl
theorem e_none {j} : EG X W g ρ (.Constant .none j pos) (.ok ()) := e_const pe_non fun _ => rfl
theorem e_gstr {x z : Str} (hm : ∃ t, X.mg x = some (.str z t)) (hg : Gl X x := by rfl) (hd : (x == ("__debug__" : Str)) = false := by decide) : EG X W g ρ (.Name x pos) (.ok z) := by
  obtain ⟨t, e⟩ := hm
  exact e_const (v := .str z) (pe_glob hg e ⟨t, rfl⟩ hd) fun _ => rfl
theorem e_gint {x : Str} {z : Int} (hm : ∃ t, X.mg x = some (.int z t)) (hg : Gl X x := by rfl) (hd : (x == ("__debug__" : Str)) = false := by decide) : EG X W g ρ (.Name x pos) (.ok z) := by
  obtain ⟨t, e⟩ := hm
  exact e_const (v := .int z) (pe_glob hg e ⟨t, rfl⟩ hd) fun _ => rfl
/-- a tuple of the module's top -/
theorem e_gtup {x : Str} {vs : List V} {z : Tup T} (hm : X.mg x = some (.ref (He.ga X.K x))) (hs : ∀ H, SqT X.K H (He.ga X.K x) vs) (hz : ∀ H, RpAll X.K H vs z.l) (hg : Gl X x := by rfl) (hd : (x == ("__debug__" : Str)) = false := by decide) : EG X W g ρ (.Name x pos) (.ok z) :=
  e_const (v := .ref (He.ga X.K x)) (pe_glob hg hm rfl hd) fun H => ⟨_, vs, rfl, hs H, hz H⟩

/-! ### whole numbers -/
/-- a product that the model takes -/
def mulOk (x y : Int) : Bool := (decide (-(2 ^ 64) < x) && decide (x < 2 ^ 64)) || (decide (-(2 ^ 64) < y) && decide (y < 2 ^ 64)) || decide (x.natAbs.log2 + y.natAbs.log2 < 1000000)
def mulM (x y : Int) : Res Int := guardR (mulOk x y) (.ok (x * y))
theorem op_mulA : OpR X (binaryOp .Mult) (rI (fun i j => mulOk i j = true) fun i j => .int (i * j)) := by
  have o : OpR X (binaryOp .Mult) (fun x y H Q => rI CMul (fun i j => .int (i * j)) x y H Q ∨ rI CMulW (fun i j => .int (i * j)) x y H Q) := op_mul.or op_mulW
  intro pins s σ H x y v u Q I rx ry hr
  refine o pins s σ H x y v u Q I rx ry ?_
  obtain ⟨i, j, e1, e2, c, q⟩ := hr
  unfold mulOk at c
  simp only [Bool.or_eq_true, Bool.and_eq_true, decide_eq_true_eq] at c
  rcases c with (c | c) | c
  · exact .inl ⟨i, j, e1, e2, .inl c, q⟩
  · exact .inl ⟨i, j, e1, e2, .inr c, q⟩
  · exact .inr ⟨i, j, e1, e2, c, q⟩
theorem e_add {ma mb : Res Int} (ha : EG X W true ρ a ma) (hb : EG X W true ρ b mb) : EG X W g ρ (.BinOp a .Add b pos) (ma.bind fun x => mb.bind fun y => .ok (x + y)) :=
  e_binR (f := fun x y => .ok (x + y)) op_add ha hb (fun _ _ H x y v u Q r1 r2 h => ⟨x, y, r1, r2, h _ rfl⟩) (fun _ _ _ h => nomatch h)
theorem e_sub {ma mb : Res Int} (ha : EG X W true ρ a ma) (hb : EG X W true ρ b mb) : EG X W g ρ (.BinOp a .Sub b pos) (ma.bind fun x => mb.bind fun y => .ok (x - y)) :=
  e_binR (f := fun x y => .ok (x - y)) op_sub ha hb (fun _ _ H x y v u Q r1 r2 h => ⟨x, y, r1, r2, h _ rfl⟩) (fun _ _ _ h => nomatch h)
theorem guard_ne {α : Type} {c : Bool} {x : α} (e : Ex) : guardR c (.ok x) ≠ Res.err e := by
  unfold guardR
  split <;> intro h <;> cases h
theorem e_mul {ma mb : Res Int} (ha : EG X W true ρ a ma) (hb : EG X W true ρ b mb) : EG X W g ρ (.BinOp a .Mult b pos) (ma.bind fun x => mb.bind fun y => mulM x y) :=
  e_binR (f := mulM) op_mulA ha hb (fun _ _ H x y v u Q r1 r2 h => ⟨x, y, r1, r2, h.guard.1, h.guard.2 _ rfl⟩) (fun _ _ e => guard_ne e)
/-- floor division by what is not 0 and of at most 9000 bits -/
def divOk (y : Int) : Bool := decide (y ≠ 0) && decide (y.natAbs.log2 < 9000)
def divM (x y : Int) : Res Int := guardR (divOk y) (.ok (x.fdiv y))
theorem op_fdivA : OpR X (binaryOp .FloorDiv) (rI (fun _ j => divOk j = true) fun i j => .int (i.fdiv j)) := opI fun i j _ _ _ _ _ hc q => by
  unfold divOk at hc
  simp only [Bool.and_eq_true, decide_eq_true_eq] at hc
  exact PyProof.Rows.floordiv_int hc.1 q (.inl (PyProof.noPylong_of_log2 hc.2))
theorem e_fdiv {ma mb : Res Int} (ha : EG X W true ρ a ma) (hb : EG X W true ρ b mb) : EG X W g ρ (.BinOp a .FloorDiv b pos) (ma.bind fun x => mb.bind fun y => divM x y) :=
  e_binR (f := divM) op_fdivA ha hb (fun _ _ H x y v u Q r1 r2 h => ⟨x, y, r1, r2, h.guard.1, h.guard.2 _ rfl⟩) (fun _ _ e => guard_ne e)
def modM (x y : Int) : Res Int := guardR (decide (y ≠ 0)) (.ok (x.fmod y))
theorem e_mod {ma mb : Res Int} (ha : EG X W true ρ a ma) (hb : EG X W true ρ b mb) : EG X W g ρ (.BinOp a .Mod b pos) (ma.bind fun x => mb.bind fun y => modM x y) :=
  e_binR (f := modM) op_modN ha hb (fun _ _ H x y v u Q r1 r2 h => ⟨x, y, r1, r2, of_decide_eq_true h.guard.1, h.guard.2 _ rfl⟩) (fun _ _ e => guard_ne e)
def powM (x y : Int) : Res Int := guardR (decide (0 ≤ y) && (decide (y ≤ 1000000) && decide (x.natAbs < 2 ^ 64))) (.ok (x ^ y.toNat))
theorem e_pow {ma mb : Res Int} (ha : EG X W true ρ a ma) (hb : EG X W true ρ b mb) : EG X W g ρ (.BinOp a .Pow b pos) (ma.bind fun x => mb.bind fun y => powM x y) :=
  e_binR (f := powM) op_pow ha hb (fun _ _ H x y v u Q r1 r2 h => ⟨x, y, r1, r2, by
    have c := h.guard.1
    simp only [Bool.and_eq_true, decide_eq_true_eq] at c
    exact c, h.guard.2 _ rfl⟩) (fun _ _ e => guard_ne e)
theorem e_unR {op : UnaryOp} {r : V → Hp → VK → Prop} {f : A → Res C} [Flat C] {ma : Res A} (ho : UnR X (unaryOp op) r) (ha : EG X W true ρ a ma)
    (hr : ∀ (B1 : List Addr) (H : Hp) (x : A) (v : V) (Q : VK), rp X.K (hide B1 H) v x → Post (f x) (fun z => ∀ w', rp X.K H w' z → Q w' H) (fun _ => True) → r v H Q) : EG X W g ρ (.UnaryOp op a pos) (ma.bind f) := by
  obtain ⟨ta, pa, qa⟩ := ha.ex
  refine ⟨_, pe_un ho pa, fun S own σ H Q rs h => one_run (R' := fun v H2 => r v H2 Q) qa rs h fun x v H2 s r1 hp => hr _ H2 x v Q r1 (hp.imp (fun z hz w' rw' => hz H2 w' s (Flat.any rw')) fun _ _ => trivial)⟩
theorem e_neg {ma : Res Int} (ha : EG X W true ρ a ma) : EG X W g ρ (.UnaryOp .USub a pos) (ma.bind fun x => .ok (-x)) :=
  e_unR (f := fun x => .ok (-x)) un_neg ha (fun _ H x v Q r1 h => ⟨x, r1, h _ rfl⟩)

/-! ### comparisons -/
theorem e_lt {ma mb : Res Int} (ha : EG X W true ρ a ma) (hb : EG X W true ρ b mb) : CJ X W ρ .Lt a b (ma.bind fun x => mb.bind fun y => .ok (decide (x < y))) :=
  e_cmpR (f := fun x y => .ok (decide (x < y))) op_lt (nomark _) ha hb (fun _ _ H x y v u Q r1 r2 h => ⟨x, y, r1, r2, h⟩)
theorem e_le {ma mb : Res Int} (ha : EG X W true ρ a ma) (hb : EG X W true ρ b mb) : CJ X W ρ .LtE a b (ma.bind fun x => mb.bind fun y => .ok (decide (x ≤ y))) :=
  e_cmpR (f := fun x y => .ok (decide (x ≤ y))) op_le (nomark _) ha hb (fun _ _ H x y v u Q r1 r2 h => ⟨x, y, r1, r2, h⟩)
theorem e_gt {ma mb : Res Int} (ha : EG X W true ρ a ma) (hb : EG X W true ρ b mb) : CJ X W ρ .Gt a b (ma.bind fun x => mb.bind fun y => .ok (decide (y < x))) :=
  e_cmpR (f := fun x y => .ok (decide (y < x))) op_gt (nomark _) ha hb (fun _ _ H x y v u Q r1 r2 h => ⟨x, y, r1, r2, h⟩)
theorem e_ge {ma mb : Res Int} (ha : EG X W true ρ a ma) (hb : EG X W true ρ b mb) : CJ X W ρ .GtE a b (ma.bind fun x => mb.bind fun y => .ok (decide (y ≤ x))) :=
  e_cmpR (f := fun x y => .ok (decide (y ≤ x))) op_ge (nomark _) ha hb (fun _ _ H x y v u Q r1 r2 h => ⟨x, y, r1, r2, h⟩)
/-- kinds whose values are compared by what they are -/
class Scal (T : Type) [Rp T] [DecidableEq T] where
  toV : T → V
  sc : ∀ x y : T, scal (toV x) (toV y) = true
  rel : ∀ {K : PySem.W.Frag} {H : Hp} {v : V} {x : T}, rp K H v x → v = toV x
  inj : ∀ x y : T, toV x = toV y → x = y
instance : Scal Int := { toV := .int, sc := fun _ _ => rfl, rel := fun h => h, inj := fun _ _ h => V.int.inj h }
instance : Scal Bool := { toV := .bl, sc := fun _ _ => rfl, rel := fun h => h, inj := fun _ _ h => V.bl.inj h }
instance : Scal Str := { toV := .str, sc := fun _ _ => rfl, rel := fun h => h, inj := fun _ _ h => V.str.inj h }
theorem Scal.dec {T : Type} [Rp T] [DecidableEq T] [Scal T] (x y : T) : decide (Scal.toV x = Scal.toV y) = decide (x = y) := by
  by_cases h : x = y
  · rw [h, decide_eq_true rfl, decide_eq_true rfl]
  · rw [decide_eq_false h, decide_eq_false fun z => h (Scal.inj x y z)]
theorem e_eq [DecidableEq T] [Scal T] {ma mb : Res T} (ha : EG X W true ρ a ma) (hb : EG X W true ρ b mb) : CJ X W ρ .Eq a b (ma.bind fun x => mb.bind fun y => .ok (decide (x = y))) :=
  e_cmpR (f := fun x y => .ok (decide (x = y))) op_eq (nomark _) ha hb (fun _ _ H x y v u Q r1 r2 h => by
    rw [Scal.rel r1, Scal.rel r2]
    refine ⟨Scal.sc x y, ?_⟩
    rw [Scal.dec]
    exact h)
theorem e_ne [DecidableEq T] [Scal T] {ma mb : Res T} (ha : EG X W true ρ a ma) (hb : EG X W true ρ b mb) : CJ X W ρ .NotEq a b (ma.bind fun x => mb.bind fun y => .ok (!decide (x = y))) :=
  e_cmpR (f := fun x y => .ok (!decide (x = y))) op_ne (nomark _) ha hb (fun _ _ H x y v u Q r1 r2 h => by
    rw [Scal.rel r1, Scal.rel r2]
    refine ⟨Scal.sc x y, ?_⟩
    rw [Scal.dec]
    exact h)

/-! ### tests, and, or, not, if .. else -/
theorem t_val {m : Res Bool} (h : EG X W true ρ e m) (he : ∀ whole, isTrue e X.env whole = (do let v ← whole; standAt e.pos; holding [v] (truthy v)) := by intro _; rfl) : TJ X W ρ e m := by
  obtain ⟨t, p, q⟩ := h.ex
  refine ⟨_, pt_val p he, fun S own σ H Q rs hp => q S own σ H _ rs (hp.imp (fun x hx H' v s r => ⟨x, r, hx H' s⟩) fun _ z => z)⟩
theorem t_not {m : Res Bool} (h : TJ X W ρ a m) : TJ X W ρ (.UnaryOp .Not a pos) (m.bind fun b => .ok (!b)) := by
  obtain ⟨t, p, q⟩ := h.ex
  refine ⟨_, pt_not p, fun S own σ H Q rs hp => q S own σ H _ rs (hp.bind.imp (fun x hx H' s => hx H' s) fun _ z => z)⟩
theorem tw_and1 {m : Res Bool} (h : TJ X W ρ a m) : TWJ X W ρ (.BoolOp .And [a] pos) m := by
  obtain ⟨t, p, q⟩ := h.ex
  exact ⟨_, pw_and1 p, q⟩
theorem tw_or1 {m : Res Bool} (h : TJ X W ρ a m) : TWJ X W ρ (.BoolOp .Or [a] pos) m := by
  obtain ⟨t, p, q⟩ := h.ex
  exact ⟨_, pw_or1 p, q⟩
def andM (m n : Res Bool) : Res Bool := m.bind fun b => if b then n else .ok false
def orM (m n : Res Bool) : Res Bool := m.bind fun b => if b then .ok true else n
theorem andM_ok (x y : Bool) : andM (.ok x) (.ok y) = .ok (x && y) := by cases x <;> rfl
theorem orM_ok (x y : Bool) : orM (.ok x) (.ok y) = .ok (x || y) := by cases x <;> rfl
theorem and_run {ta tb : TT} {m n : Res Bool} {S own : List Addr} {σ : St} {H : Hp} {Q : Bool → Hp → Prop} (qa : TJp X W ρ ta m) (qb : TJp X W ρ tb n) (rs : RS X.K S ρ σ H own) (hp : Post (andM m n) (fun b => ∀ H', Same H H' → Q b H') (ErrX X W S own σ H)) : tAnd ta tb σ H Q :=
  qa S own σ H _ rs (hp.bind.imp (fun x hx H1 s => by
    cases x with
    | true =>
      show if true = true then _ else _
      rw [if_pos rfl]
      exact qb S own σ H1 Q (rs.mono s) (Post.imp (show Post n _ _ from hx) (fun y hy H2 s2 => hy H2 (s.trans s2)) fun _ z => z.mono s)
    | false =>
      show if false = true then _ else _
      rw [if_neg Bool.false_ne_true]
      exact hx H1 s) fun _ z => z)
theorem or_run {ta tb : TT} {m n : Res Bool} {S own : List Addr} {σ : St} {H : Hp} {Q : Bool → Hp → Prop} (qa : TJp X W ρ ta m) (qb : TJp X W ρ tb n) (rs : RS X.K S ρ σ H own) (hp : Post (orM m n) (fun b => ∀ H', Same H H' → Q b H') (ErrX X W S own σ H)) : tOr ta tb σ H Q :=
  qa S own σ H _ rs (hp.bind.imp (fun x hx H1 s => by
    cases x with
    | false =>
      show if false = true then _ else _
      rw [if_neg Bool.false_ne_true]
      exact qb S own σ H1 Q (rs.mono s) (Post.imp (show Post n _ _ from hx) (fun y hy H2 s2 => hy H2 (s.trans s2)) fun _ z => z.mono s)
    | true =>
      show if true = true then _ else _
      rw [if_pos rfl]
      exact hx H1 s) fun _ z => z)
theorem tw_and {m n : Res Bool} {rest : List Expr} (h : TJ X W ρ a m) (h2 : TWJ X W ρ (.BoolOp .And (b :: rest) pos) n) : TWJ X W ρ (.BoolOp .And (a :: b :: rest) pos) (andM m n) := by
  obtain ⟨ta, pa, qa⟩ := h.ex
  obtain ⟨tb, pb, qb⟩ := h2.ex
  exact ⟨_, pw_and pa pb, fun S own σ H Q rs hp => and_run qa qb rs hp⟩
theorem tw_or {m n : Res Bool} {rest : List Expr} (h : TJ X W ρ a m) (h2 : TWJ X W ρ (.BoolOp .Or (b :: rest) pos) n) : TWJ X W ρ (.BoolOp .Or (a :: b :: rest) pos) (orM m n) := by
  obtain ⟨ta, pa, qa⟩ := h.ex
  obtain ⟨tb, pb, qb⟩ := h2.ex
  exact ⟨_, pw_or pa pb, fun S own σ H Q rs hp => or_run qa qb rs hp⟩
theorem TWJ.pt {m : Res Bool} (h : TWJ X W ρ e m) : TJ X W ρ e m := by
  obtain ⟨t, p, q⟩ := h.ex
  exact ⟨t, PW.pt p, q⟩
theorem e_and1 {op} {m : Res Bool} (h : EG X W true ρ a m) : EG X W g ρ (.BoolOp op [a] pos) m := by
  obtain ⟨t, p, q⟩ := (h.flat (g' := g)).ex
  exact ⟨_, pe_one p, q⟩
theorem e_and {m n : Res Bool} {rest : List Expr} (h : EG X W true ρ a m) (h2 : EG X W true ρ (.BoolOp .And (b :: rest) pos) n) : EG X W g ρ (.BoolOp .And (a :: b :: rest) pos) (andM m n) := by
  obtain ⟨ta, pa, qa⟩ := h.ex
  obtain ⟨tb, pb, qb⟩ := h2.ex
  refine ⟨_, pe_and pa pb, fun S own σ H Q rs hp => qa S own σ H _ rs (hp.bind.imp (fun x hx H1 v s r => ⟨x, r, ?_⟩) fun _ z => z)⟩
  cases x with
  | true =>
    rw [if_pos rfl]
    exact qb S own σ H1 Q (rs.mono s) (Post.imp (show Post n _ _ from hx) (fun y hy H2 v s2 r2 => hy H2 v (s.trans s2) (Flat.any r2)) fun _ z => z.mono s)
  | false =>
    rw [if_neg Bool.false_ne_true]
    exact hx H1 (.bl false) s rfl
theorem e_or {m n : Res Bool} {rest : List Expr} (h : EG X W true ρ a m) (h2 : EG X W true ρ (.BoolOp .Or (b :: rest) pos) n) : EG X W g ρ (.BoolOp .Or (a :: b :: rest) pos) (orM m n) := by
  obtain ⟨ta, pa, qa⟩ := h.ex
  obtain ⟨tb, pb, qb⟩ := h2.ex
  refine ⟨_, pe_or pa pb, fun S own σ H Q rs hp => qa S own σ H _ rs (hp.bind.imp (fun x hx H1 v s r => ⟨x, r, ?_⟩) fun _ z => z)⟩
  cases x with
  | true =>
    rw [if_pos rfl]
    exact hx H1 (.bl true) s rfl
  | false =>
    rw [if_neg Bool.false_ne_true]
    exact qb S own σ H1 Q (rs.mono s) (Post.imp (show Post n _ _ from hx) (fun y hy H2 v s2 r2 => hy H2 v (s.trans s2) (Flat.any r2)) fun _ z => z.mono s)
theorem e_not {m : Res Bool} (h : EG X W true ρ a m) : EG X W g ρ (.UnaryOp .Not a pos) (m.bind fun b => .ok (!b)) := by
  obtain ⟨t, p, q⟩ := h.ex
  exact ⟨_, pe_not p, fun S own σ H Q rs hp => q S own σ H _ rs (hp.bind.imp (fun x hx H' v s r => ⟨x, r, hx H' _ s rfl⟩) fun _ z => z)⟩
theorem e_if {c : Expr} {mc : Res Bool} {m n : Res T} (hc : TJ X W ρ c mc) (h : EG X W g ρ a m) (h2 : EG X W g ρ b n) : EG X W g ρ (.IfExp c a b pos) (mc.bind fun k => if k then m else n) := by
  obtain ⟨tc, pc, qc⟩ := hc.ex
  obtain ⟨ta, pa, qa⟩ := h.ex
  obtain ⟨tb, pb, qb⟩ := h2.ex
  refine ⟨_, pe_ifExp pc pa pb, fun S own σ H Q rs hp => qc S own σ H _ rs (hp.bind.imp (fun x hx H1 s => ?_) fun _ z => z)⟩
  cases x with
  | true =>
    rw [if_pos rfl]
    exact qa S own σ H1 Q (rs.mono s) (Post.imp (show Post m _ _ from hx) (fun y hy H2 v s2 r2 => hy H2 v (s.trans s2) r2) fun _ z => z.mono s)
  | false =>
    rw [if_neg Bool.false_ne_true]
    exact qb S own σ H1 Q (rs.mono s) (Post.imp (show Post n _ _ from hx) (fun y hy H2 v s2 r2 => hy H2 v (s.trans s2) r2) fun _ z => z.mono s)

/-! ### arguments -/
theorem a_nil {k : Unit → Res R} : AJ X W g ρ [] asN k (k ()) :=
  ⟨_, pa_nil, fun S own σ H Q P E rs hE h q => q () [] H (Same.refl H) .nil h⟩
theorem a_cons {es : List Expr} {A : Type} {as : A → List AV} {k : T × A → Res R} {m1 : Res T} {m2 : T → Res R} (h1 : EG X W g ρ e m1) (h2 : ∀ x, AJ X W g ρ es as (fun xs => k (x, xs)) (m2 x))
    (hs : starEach (e :: es) X.env = (false, eval e X.env) :: starEach es X.env := by rfl) : AJ X W g ρ (e :: es) (asC as) k (m1.bind m2) := by
  obtain ⟨t1, p1, q1⟩ := h1.ex
  have dead : PA X es (fun _ _ _ => False) := ⟨fun _ _ _ _ _ _ _ h => h.elim⟩
  cases m1 with
  | bad => exact ⟨_, pa_cons p1 dead hs, fun S own σ H Q P E rs hE h q => h.elim⟩
  | err z => exact ⟨_, pa_cons p1 dead hs, fun S own σ H Q P E rs hE h q => q1 S own σ H _ rs (hE z h)⟩
  | ok x =>
    obtain ⟨t2, p2, q2⟩ := (h2 x).ex
    exact ⟨_, pa_cons p1 p2 hs, fun S own σ H Q P E rs hE h q => q1 S own σ H _ rs fun H1 v s1 r1 => q2 S own σ H1 _ P E (rs.mono s1) (fun e z => (hE e z).mono s1) h fun xs vs H2 s2 r2 hk =>
      q (x, xs) (v :: vs) H2 (s1.trans s2) (.cons (Rp.mono (hide_same s2) r1) r2) hk⟩
theorem a_consp {es : List Expr} {A : Type} {as : A → List AV} {k : T × A → Res R} {x : T} {m : Res R} (h1 : EG X W g ρ e (.ok x)) (h2 : AJ X W g ρ es as (fun xs => k (x, xs)) m)
    (hs : starEach (e :: es) X.env = (false, eval e X.env) :: starEach es X.env := by rfl) : AJ X W g ρ (e :: es) (asC as) k m := by
  obtain ⟨t1, p1, q1⟩ := h1.ex
  obtain ⟨t2, p2, q2⟩ := h2.ex
  exact ⟨_, pa_cons p1 p2 hs, fun S own σ H Q P E rs hE h q => q1 S own σ H _ rs fun H1 v s1 r1 => q2 S own σ H1 _ P E (rs.mono s1) (fun e z => (hE e z).mono s1) h fun xs vs H2 s2 r2 hk =>
      q (x, xs) (v :: vs) H2 (s1.trans s2) (.cons (Rp.mono (hide_same s2) r1) r2) hk⟩
/-! ### the same where the parts are values -/
variable {x y : Int} {p q : Bool}
theorem e_addp (ha : EG X W true ρ a (.ok x)) (hb : EG X W true ρ b (.ok y)) : EG X W g ρ (.BinOp a .Add b pos) (.ok (x + y)) := e_add ha hb
theorem e_subp (ha : EG X W true ρ a (.ok x)) (hb : EG X W true ρ b (.ok y)) : EG X W g ρ (.BinOp a .Sub b pos) (.ok (x - y)) := e_sub ha hb
theorem e_mulp (ha : EG X W true ρ a (.ok x)) (hb : EG X W true ρ b (.ok y)) : EG X W g ρ (.BinOp a .Mult b pos) (mulM x y) := e_mul ha hb
theorem e_fdivp (ha : EG X W true ρ a (.ok x)) (hb : EG X W true ρ b (.ok y)) : EG X W g ρ (.BinOp a .FloorDiv b pos) (divM x y) := e_fdiv ha hb
theorem e_modp (ha : EG X W true ρ a (.ok x)) (hb : EG X W true ρ b (.ok y)) : EG X W g ρ (.BinOp a .Mod b pos) (modM x y) := e_mod ha hb
theorem e_powp (ha : EG X W true ρ a (.ok x)) (hb : EG X W true ρ b (.ok y)) : EG X W g ρ (.BinOp a .Pow b pos) (powM x y) := e_pow ha hb
theorem e_negp (ha : EG X W true ρ a (.ok x)) : EG X W g ρ (.UnaryOp .USub a pos) (.ok (-x)) := e_neg ha
theorem e_ltp (ha : EG X W true ρ a (.ok x)) (hb : EG X W true ρ b (.ok y)) : CJ X W ρ .Lt a b (.ok (decide (x < y))) := e_lt ha hb
theorem e_lep (ha : EG X W true ρ a (.ok x)) (hb : EG X W true ρ b (.ok y)) : CJ X W ρ .LtE a b (.ok (decide (x ≤ y))) := e_le ha hb
theorem e_gtp (ha : EG X W true ρ a (.ok x)) (hb : EG X W true ρ b (.ok y)) : CJ X W ρ .Gt a b (.ok (decide (y < x))) := e_gt ha hb
theorem e_gep (ha : EG X W true ρ a (.ok x)) (hb : EG X W true ρ b (.ok y)) : CJ X W ρ .GtE a b (.ok (decide (y ≤ x))) := e_ge ha hb
theorem e_eqp [DecidableEq T] [Scal T] {x y : T} (ha : EG X W true ρ a (.ok x)) (hb : EG X W true ρ b (.ok y)) : CJ X W ρ .Eq a b (.ok (decide (x = y))) := e_eq ha hb
theorem e_nep [DecidableEq T] [Scal T] {x y : T} (ha : EG X W true ρ a (.ok x)) (hb : EG X W true ρ b (.ok y)) : CJ X W ρ .NotEq a b (.ok (!decide (x = y))) := e_ne ha hb
theorem t_notp (h : TJ X W ρ a (.ok p)) : TJ X W ρ (.UnaryOp .Not a pos) (.ok (!p)) := t_not h
theorem tw_andp {rest : List Expr} (h : TJ X W ρ a (.ok p)) (h2 : TWJ X W ρ (.BoolOp .And (b :: rest) pos) (.ok q)) : TWJ X W ρ (.BoolOp .And (a :: b :: rest) pos) (.ok (p && q)) := andM_ok p q ▸ tw_and h h2
theorem tw_orp {rest : List Expr} (h : TJ X W ρ a (.ok p)) (h2 : TWJ X W ρ (.BoolOp .Or (b :: rest) pos) (.ok q)) : TWJ X W ρ (.BoolOp .Or (a :: b :: rest) pos) (.ok (p || q)) := orM_ok p q ▸ tw_or h h2
theorem e_andp {rest : List Expr} (h : EG X W true ρ a (.ok p)) (h2 : EG X W true ρ (.BoolOp .And (b :: rest) pos) (.ok q)) : EG X W g ρ (.BoolOp .And (a :: b :: rest) pos) (.ok (p && q)) := andM_ok p q ▸ e_and h h2
theorem e_orp {rest : List Expr} (h : EG X W true ρ a (.ok p)) (h2 : EG X W true ρ (.BoolOp .Or (b :: rest) pos) (.ok q)) : EG X W g ρ (.BoolOp .Or (a :: b :: rest) pos) (.ok (p || q)) := orM_ok p q ▸ e_or h h2
theorem e_notp (h : EG X W true ρ a (.ok p)) : EG X W g ρ (.UnaryOp .Not a pos) (.ok (!p)) := e_not h
theorem e_ifp {c : Expr} {u v : T} (hc : TJ X W ρ c (.ok p)) (h : EG X W g ρ a (.ok u)) (h2 : EG X W g ρ b (.ok v)) : EG X W g ρ (.IfExp c a b pos) (.ok (if p then u else v)) := by
  have := e_if (pos := pos) hc h h2
  cases p <;> exact this
end
end Py

set_option Elab.async false
set_option linter.all false
set_option maxRecDepth 100000
set_option maxHeartbeats 1000000
/-! Py, part C: tuples, lists, subscripts, slices, built-in calls, calls of defs. -/
namespace Py
open PySem PySem.Spec L2
open Rp (rp)

/-- a list whose items are in sight (it may itself be kept) -/
abbrev LGp (X : Cx) (W : WX) (ρ : List Slot) (t : TE) {T : Type} [Rp T] (m : Res (List T)) : Prop :=
  ∀ (S own : List Addr) (σ : St) (H : Hp) (Q : VK), RS X.K S ρ σ H own → Post m (fun xs => ∀ H' a vs, Same H H' → H' a = some (.lst vs) → RpAll X.K (hide (S ++ own) H') vs xs → Q (.ref a) H') (ErrX X W S own σ H) → t σ H Q
structure LG (X : Cx) (W : WX) (ρ : List Slot) (e : Expr) {T : Type} [Rp T] (m : Res (List T)) : Prop where
  ex : ∃ t, PE X e t ∧ LGp X W ρ t m
/-- a new list -/
abbrev FGp (X : Cx) (W : WX) (ρ : List Slot) (t : TE) {T : Type} [Rp T] (m : Res (List T)) : Prop :=
  ∀ (S own : List Addr) (σ : St) (H : Hp) (Q : VK), RS X.K S ρ σ H own → Post m (fun xs => ∀ H' a vs, Same H H' → H a = none → H' a = some (.lst vs) → RpAll X.K (hide (a :: (S ++ own)) H') vs xs → Q (.ref a) H') (ErrX X W S own σ H) → t σ H Q
structure FG (X : Cx) (W : WX) (ρ : List Slot) (e : Expr) {T : Type} [Rp T] (m : Res (List T)) : Prop where
  ex : ∃ t, PE X e t ∧ FGp X W ρ t m

theorem RS.fresh {K : PySem.W.Frag} {S own : List Addr} {ρ : List Slot} {σ : St} {H : Hp} {p : Addr} (rs : RS K S ρ σ H own) (h : H p = none) : p ∉ S ++ own := fun z => rs.dom p z h
theorem hide_new {B : List Addr} {H : Hp} {p : Addr} {o : HO} (h : H p = none) (hp : p ∉ B) : hide (p :: B) (upd H p o) = hide B H := by
  rw [hide_upd_in List.mem_cons_self, hide_cons_new h]
theorem RpAll.length {T : Type} [Rp T] {K : PySem.W.Frag} {H : Hp} {vs : List V} {xs : List T} (h : RpAll K H vs xs) : vs.length = xs.length := Paired.length h
theorem ArgsR.length {K : PySem.W.Frag} {H : Hp} {vs : List V} {xs : List AV} (h : ArgsR K H vs xs) : vs.length = xs.length := by
  induction h with
  | nil => rfl
  | cons _ _ ih => simp [ih]
theorem ArgsR.get {K : PySem.W.Frag} {H : Hp} {vs : List V} {xs : List AV} (h : ArgsR K H vs xs) : ∀ {i : Nat} {x : AV}, xs[i]? = some x → ∃ v, vs[i]? = some v ∧ x.rp K H v := by
  induction h with
  | nil => intro i x e; cases e
  | cons r _ ih =>
    intro i x e
    cases i with
    | zero => cases e; exact ⟨_, rfl, r⟩
    | succ i => exact ih e
theorem RpAll.get {T : Type} [Rp T] {K : PySem.W.Frag} {H : Hp} : ∀ {vs : List V} {xs : List T} {i : Nat} {x : T}, RpAll K H vs xs → xs[i]? = some x → ∃ v, vs[i]? = some v ∧ rp K H v x
  | _, _, 0, _, .cons r _, e => by cases e; exact ⟨_, rfl, r⟩
  | _, _, i + 1, _, .cons _ t, e => RpAll.get (i := i) t e
  | _, _, 0, _, .nil, e => by cases e
  | _, _, i + 1, _, .nil, e => by cases e
theorem RpAll.append {T : Type} [Rp T] {K : PySem.W.Frag} {H : Hp} : ∀ {vs us : List V} {xs ys : List T}, RpAll K H vs xs → RpAll K H us ys → RpAll K H (vs ++ us) (xs ++ ys)
  | _, _, _, _, .nil, h => h
  | _, _, _, _, .cons r t, h => .cons r (RpAll.append t h)
theorem RpAll.take {T : Type} [Rp T] {K : PySem.W.Frag} {H : Hp} : ∀ {vs : List V} {xs : List T} (n : Nat), RpAll K H vs xs → RpAll K H (vs.take n) (xs.take n)
  | _, _, 0, _ => .nil
  | _, _, n + 1, .nil => .nil
  | _, _, n + 1, .cons r t => .cons r (RpAll.take n t)
theorem RpAll.drop {T : Type} [Rp T] {K : PySem.W.Frag} {H : Hp} : ∀ {vs : List V} {xs : List T} (n : Nat), RpAll K H vs xs → RpAll K H (vs.drop n) (xs.drop n)
  | _, _, 0, h => h
  | _, _, n + 1, .nil => .nil
  | _, _, n + 1, .cons r t => RpAll.drop n t
theorem RpAll.set {T : Type} [Rp T] {K : PySem.W.Frag} {H : Hp} {v : V} {x : T} (r : rp K H v x) : ∀ {vs : List V} {xs : List T} (i : Nat), RpAll K H vs xs → RpAll K H (vs.set i v) (xs.set i x)
  | _, _, _, .nil => .nil
  | _, _, 0, .cons _ t => .cons r t
  | _, _, i + 1, .cons q t => .cons q (RpAll.set r i t)
theorem RpAll.reverse {T : Type} [Rp T] {K : PySem.W.Frag} {H : Hp} : ∀ {vs : List V} {xs : List T}, RpAll K H vs xs → RpAll K H vs.reverse xs.reverse
  | _, _, .nil => .nil
  | _, _, .cons r t => by
    rw [List.reverse_cons, List.reverse_cons]
    exact RpAll.append (RpAll.reverse t) (.cons r .nil)
theorem RpAll.int {K : PySem.W.Frag} {H : Hp} : ∀ {vs : List V} {xs : List Int}, RpAll K H vs xs → vs = xs.map V.int
  | _, _, .nil => rfl
  | _, _, .cons r t => by rw [List.map_cons, ← RpAll.int t, show _ = V.int _ from r]
theorem RpAll.of_int {K : PySem.W.Frag} {H : Hp} : ∀ (xs : List Int), RpAll K H (xs.map V.int) xs
  | [] => .nil
  | _ :: t => .cons rfl (RpAll.of_int t)
theorem RpAll.str {K : PySem.W.Frag} {H : Hp} : ∀ {vs : List V} {xs : List Str}, RpAll K H vs xs → vs = xs.map V.str
  | _, _, .nil => rfl
  | _, _, .cons r t => by rw [List.map_cons, ← RpAll.str t, show _ = V.str _ from r]
theorem RpAll.of_str {K : PySem.W.Frag} {H : Hp} : ∀ (xs : List Str), RpAll K H (xs.map V.str) xs
  | [] => .nil
  | _ :: t => .cons rfl (RpAll.of_str t)
theorem RpAll.bl {K : PySem.W.Frag} {H : Hp} : ∀ {vs : List V} {xs : List Bool}, RpAll K H vs xs → vs = xs.map V.bl
  | _, _, .nil => rfl
  | _, _, .cons r t => by rw [List.map_cons, ← RpAll.bl t, show _ = V.bl _ from r]
section
variable {X : Cx} {W : WX} {g : Bool} {ρ : List Slot} {T A B C R : Type} [Rp T] [Rp A] [Rp B] [Rp C] [Rp R] {a b e : Expr} {pos : Pos} {lv : Nat}
theorem EG.lg {m : Res (List T)} (h : EG X W true ρ e m) : LG X W ρ e m := by
  obtain ⟨t, p, q⟩ := h.ex
  refine ⟨t, p, fun S own σ H Q rs hp => q S own σ H Q rs (hp.imp (fun xs hx H' v s r => ?_) fun _ z => z)⟩
  obtain ⟨a, vs, rfl, e1, e2⟩ := r
  exact hx H' a vs s (hide_sub _ _ e1) e2
theorem l_own (i : Nat) {x : Str} {ao : Option Addr} {xs : List T} (hr : ρ[i]? = some (Slot.own T ao xs) := by rfl) (hN : X.N[i]? = some x := by rfl) (hv : Vis X.env.scope x := by first | exact Or.inl rfl | exact Or.inr (Or.inl rfl) | exact Or.inr (Or.inr rfl))
    (hd : (x == ("__debug__" : Str)) = false := by decide) (hcd : (x == ("__classdict__" : Str)) = false := by decide) : LG X W ρ (.Name x pos) (.ok xs) := by
  refine ⟨_, pe_var hN hv hd hcd, fun S own σ H Q rs h => ?_⟩
  obtain ⟨ads, r, _, h3⟩ := rs.rs
  obtain ⟨a, vs, e, e1, e2, e3, _⟩ := r.own_at hr
  exact ⟨_, e, h H a vs (Same.refl H) e2 e3⟩
theorem FG.ej {m : Res (List T)} (h : FG X W ρ e m) : EG X W g ρ e m := by
  obtain ⟨t, p, q⟩ := h.ex
  refine ⟨t, p, fun S own σ H Q rs hp => q S own σ H Q rs (hp.imp (fun xs hx H' a vs s na e1 e2 => hx H' _ s ⟨a, vs, rfl, ?_, RpAll.mono (hide_mono fun z hz => List.mem_cons_of_mem _ (reg_sub z hz)) e2⟩) fun _ z => z)⟩
  rw [hide_out fun z => rs.dom a (reg_sub a z) na]
  exact e1
theorem FG.lg {m : Res (List T)} (h : FG X W ρ e m) : LG X W ρ e m := EG.lg (FG.ej h)
theorem FG.of_eq {m m' : Res (List T)} (h : FG X W ρ e m) (z : m = m') : FG X W ρ e m' := z ▸ h

theorem lone_run {ta : TE} {ma : Res (List A)} {f : List A → Res C} {P : C → Prop} {S own : List Addr} {σ : St} {H : Hp} {R' : V → Hp → Prop} (ha : LGp X W ρ ta ma) (rs : RS X.K S ρ σ H own)
    (h : Post (ma.bind f) P (ErrX X W S own σ H)) (k : ∀ xs a vs H', Same H H' → H' a = some (.lst vs) → RpAll X.K (hide (S ++ own) H') vs xs → Post (f xs) P (ErrX X W S own σ H) → R' (.ref a) H') : ta σ H R' :=
  ha S own σ H _ rs (h.bind.imp (fun x hx H1 a vs s1 r1 r2 => k x a vs H1 s1 r1 r2 hx) fun _ z => z)
theorem ltwo_run {gb : Bool} {ta tb : TE} {ma : Res (List A)} {mb : Res B} {f : List A → B → Res C} {P : C → Prop} {S own : List Addr} {σ : St} {H : Hp} {R' : V → V → Hp → Prop} (ha : LGp X W ρ ta ma) (hb : EGp X W gb ρ tb mb) (rs : RS X.K S ρ σ H own)
    (h : Post (ma.bind fun x => mb.bind (f x)) P (ErrX X W S own σ H))
    (k : ∀ xs y a vs u H', Same H H' → H' a = some (.lst vs) → RpAll X.K (hide (S ++ own) H') vs xs → rp X.K (hide (reg gb S own) H') u y → Post (f xs y) P (ErrX X W S own σ H) → R' (.ref a) u H') : ta σ H fun v H1 => tb σ H1 fun u H2 => R' v u H2 :=
  ha S own σ H _ rs (h.bind.imp (fun x hx H1 a vs s1 r1 r2 => hb S own σ H1 _ (rs.mono s1) (hx.bind.imp (fun y hy H2 u s2 r3 => k x y a vs u H2 (s1.trans s2) (s2 _ _ r1) (RpAll.mono (hide_same s2) r2) r3 hy) fun _ z => z.mono s1)) fun _ z => z)

/-! ### displays -/
theorem e_tup {es : List Expr} {A T : Type} [Places T] {as : A → List AV} {mk : A → T} {m : Res T} {x1} (h : AJ X W g ρ es as (fun x => .ok (mk x)) m) (hp : ∀ x, Places.av (mk x) = as x := by intro _; rfl)
    (hz : ∀ x, (as x).length ≤ sizeLine := by intro _; exact Nat.le_of_ble_eq_true rfl) : EG X W g ρ (.Tuple es x1 pos) m := by
  obtain ⟨t, p, q⟩ := h.ex
  refine ⟨_, pe_tup p, fun S own σ H Q rs hP => q S own σ H _ _ _ rs (fun e z => z) hP fun x vs H' s r hx => ⟨by rw [r.length]; exact hz x, fun p np => ?_⟩⟩
  have s2 : Same H' (upd H' p (.tup vs)) := same_upd np
  refine hx _ _ (s.trans s2) ⟨p, vs, rfl, .inl (.inl ?_), ?_⟩
  · rw [hide_out fun z => (rs.mono s).dom p (reg_sub p z) np, upd_same]
  · rw [hp]
    exact r.mono (hide_same s2)
theorem args_all {K : PySem.W.Frag} {H : Hp} : ∀ {vs : List V} {xs : List T}, ArgsR K H vs (xs.map av) → RpAll K H vs xs
  | _, [], .nil => .nil
  | _, _ :: _, .cons r t => .cons r (args_all t)
theorem f_list {es : List Expr} {A : Type} {as : A → List AV} {mk : A → List T} {m : Res (List T)} (h : AJ X W true ρ es as (fun x => .ok (mk x)) m) (hp : ∀ x, as x = (mk x).map av := by intro _; rfl)
    (hz : ∀ x, (mk x).length ≤ sizeLine := by intro _; exact Nat.le_of_ble_eq_true rfl) : FG X W ρ (.List es pos) m := by
  obtain ⟨t, p, q⟩ := h.ex
  refine ⟨_, pe_lst p, fun S own σ H Q rs hP => q S own σ H _ _ _ rs (fun e z => z) hP fun x vs H' s r hx => ?_⟩
  rw [hp] at r
  have r2 := args_all r
  refine ⟨by rw [r2.length]; exact hz x, fun p np => ?_⟩
  refine hx (upd H' p (.lst vs)) p vs (s.trans (same_upd np)) (s.free np) upd_same ?_
  rw [hide_new np ((rs.mono s).fresh np)]
  exact r2

/-! ### subscripts -/
def idxM {α : Type} (xs : List α) (i : Int) : Res α := match atI xs i with
  | some x => .ok x
  | none => .bad
theorem atI_rel {K : PySem.W.Frag} {H : Hp} {vs : List V} {xs : List T} (r : RpAll K H vs xs) {i : Int} {x : T} (h : atI xs i = some x) : ∃ v, atI vs i = some v ∧ rp K H v x := by
  unfold atI at h ⊢
  rw [r.length]
  cases e : ixN xs.length i with
  | none => rw [e] at h; cases h
  | some j =>
    rw [e] at h
    exact r.get (show xs[j]? = some x from h)
theorem e_ix {ma : Res (List T)} {mb : Res Int} (ha : LG X W ρ a ma) (hb : EG X W true ρ b mb) (hs : PlainIx b := by exact fun _ _ => rfl) : EG X W g ρ (.Subscript a b pos) (ma.bind fun xs => mb.bind fun i => idxM xs i) := by
  obtain ⟨ta, pa, qa⟩ := ha.ex
  obtain ⟨tb, pb, qb⟩ := hb.ex
  refine ⟨_, pe_ix ix_list pa pb hs, fun S own σ H Q rs h => ltwo_run (R' := fun v u H2 => rIxL X.K v u H2 Q) qa qb rs h fun xs i p vs u H2 s r1 r2 r3 hp => ?_⟩
  unfold idxM at hp
  cases e : atI xs i with
  | none => rw [e] at hp; exact hp.elim
  | some x =>
    rw [e] at hp
    obtain ⟨v, e2, r4⟩ := atI_rel r2 e
    exact ⟨p, vs, i, v, rfl, r3, .inl (.inl r1), e2, hp H2 v s (Rp.mono (hide_mono reg_sub) r4)⟩
theorem e_ixt {ma : Res (Tup T)} {mb : Res Int} (ha : EG X W g ρ a ma) (hb : EG X W true ρ b mb) (hs : PlainIx b := by exact fun _ _ => rfl) : EG X W g ρ (.Subscript a b pos) (ma.bind fun xs => mb.bind fun i => idxM xs.l i) := by
  obtain ⟨ta, pa, qa⟩ := ha.ex
  obtain ⟨tb, pb, qb⟩ := hb.ex
  refine ⟨_, pe_ix ix_tup pa pb hs, fun S own σ H Q rs h => two_run (R' := fun v u H2 => rIxT X.K v u H2 Q) qa qb rs h fun xs i w' u H2 s r1 r3 hp => ?_⟩
  obtain ⟨p, vs, rfl, h1, r2⟩ := r1
  unfold idxM at hp
  cases e : atI xs.l i with
  | none => rw [e] at hp; exact hp.elim
  | some x =>
    rw [e] at hp
    obtain ⟨v, e2, r4⟩ := atI_rel r2 e
    exact ⟨p, vs, i, v, rfl, r3, SqT.same hide_sub h1, e2, hp H2 v s r4⟩
/-- a tuple's place -/
theorem e_pl {A : Type} [Places A] {j : Nat} {f : A → T} {ma : Res A} {c} {p2 : Pos} (ha : EG X W g ρ a ma) (hf : ∀ x, (Places.av x)[j]? = some (av (f x)) := by intro _; rfl) : EG X W g ρ (.Subscript a (.Constant (.int (j : Int)) c p2) pos) (ma.bind fun x => .ok (f x)) := by
  obtain ⟨ta, pa, qa⟩ := ha.ex
  refine ⟨_, pe_ix ix_tup pa pe_int (fun _ _ => rfl), fun S own σ H Q rs h => one_run (R' := fun v H2 => rIxT X.K v (.int (j : Int)) H2 Q) qa rs h fun x w' H2 s r1 hp => ?_⟩
  obtain ⟨p, vs, rfl, h1, r2⟩ := r1
  obtain ⟨v, e2, r4⟩ := r2.get (hf x)
  exact ⟨p, vs, (j : Int), v, rfl, rfl, SqT.same hide_sub h1, atI_nat e2, hp H2 v s r4⟩
theorem e_ixs {ma : Res Str} {mb : Res Int} (ha : EG X W true ρ a ma) (hb : EG X W true ρ b mb) (hs : PlainIx b := by exact fun _ _ => rfl) :
    EG X W g ρ (.Subscript a b pos) (ma.bind fun z => mb.bind fun i => guardR (decide (z.length ≤ sizeLine)) ((idxM z.cps.toList i).bind fun c => .ok (⟨#[c]⟩ : Str))) := by
  obtain ⟨ta, pa, qa⟩ := ha.ex
  obtain ⟨tb, pb, qb⟩ := hb.ex
  refine ⟨_, pe_ix ix_str pa pb hs, fun S own σ H Q rs h => two_run (R' := fun v u H2 => rIxS v u H2 Q) qa qb rs h fun z i w' u H2 s r1 r3 hp => ?_⟩
  obtain ⟨h1, hp⟩ := hp.guard
  unfold idxM at hp
  cases e : atI z.cps.toList i with
  | none => rw [e] at hp; exact hp.elim
  | some c =>
    rw [e] at hp
    exact ⟨z, i, c, r1, r3, of_decide_eq_true h1, e, hp H2 _ s rfl⟩
/-- the script -/
theorem e_ixscr {ma : Res Scr} {mb : Res Int} (ha : EG X W true ρ a ma) (hb : EG X W true ρ b mb) (hs : PlainIx b := by exact fun _ _ => rfl) : EG X W g ρ (.Subscript a b pos) (ma.bind fun z => mb.bind fun i => idxM z.ns i) := by
  obtain ⟨ta, pa, qa⟩ := ha.ex
  obtain ⟨tb, pb, qb⟩ := hb.ex
  refine ⟨_, pe_ix ix_list pa pb hs, fun S own σ H Q rs h => two_run (R' := fun v u H2 => rIxL X.K v u H2 Q) qa qb rs h fun z i w' u H2 s r1 r3 hp => ?_⟩
  obtain ⟨p, rfl, h1⟩ := r1
  unfold idxM at hp
  cases e : atI z.ns i with
  | none => rw [e] at hp; exact hp.elim
  | some x =>
    rw [e] at hp
    obtain ⟨v, e2, r4⟩ := atI_rel (RpAll.of_int (K := X.K) (H := H2) z.ns) e
    exact ⟨p, _, i, v, rfl, r3, hide_sub.seq h1, e2, hp H2 v s r4⟩

/-! ### slices -/
abbrev OGp (X : Cx) (W : WX) (ρ : List Slot) (t : TO) (m : Res (Option Int)) : Prop :=
  ∀ (S own : List Addr) (σ : St) (H : Hp) (Q : Option Int → Hp → Prop), RS X.K S ρ σ H own → Post m (fun x => ∀ H', Same H H' → Q x H') (ErrX X W S own σ H) → t σ H Q
structure OG (X : Cx) (W : WX) (ρ : List Slot) (e : Option Expr) (m : Res (Option Int)) : Prop where
  ex : ∃ t, PO X e t ∧ OGp X W ρ t m
theorem o_none : OG X W ρ none (.ok none) := ⟨_, po_none, fun S own σ H Q rs h => h H (Same.refl H)⟩
theorem o_some {m : Res Int} (h : EG X W true ρ e m) : OG X W ρ (some e) (m.bind fun i => .ok (some i)) := by
  obtain ⟨t, p, q⟩ := h.ex
  exact ⟨_, po_some p, fun S own σ H Q rs hp => q S own σ H _ rs (hp.bind.imp (fun x hx H' v s r => ⟨x, r, hx H' s⟩) fun _ z => z)⟩
def cut {α : Type} (xs : List α) (lo hi : Option Int) : List α := (xs.drop (HT.sIx xs.length 0 lo)).take (HT.sIx xs.length xs.length hi - HT.sIx xs.length 0 lo)
theorem cut_rel {K : PySem.W.Frag} {H : Hp} {vs : List V} {xs : List T} (r : RpAll K H vs xs) (lo hi : Option Int) : RpAll K H (cutV vs lo hi) (cut xs lo hi) := by
  unfold cutV cut
  rw [r.length]
  exact (r.drop _).take _
theorem f_slice {ma : Res (List T)} {ml mh : Res (Option Int)} {lo hi : Option Expr} {p2 : Pos} (ha : LG X W ρ e ma) (hl : OG X W ρ lo ml) (hh : OG X W ρ hi mh) :
    FG X W ρ (.Subscript e (.Slice lo hi none p2) pos) (ma.bind fun xs => ml.bind fun l => mh.bind fun h => .ok (cut xs l h)) := by
  obtain ⟨ta, pa, qa⟩ := ha.ex
  obtain ⟨tl, pl, ql⟩ := hl.ex
  obtain ⟨th, ph, qh⟩ := hh.ex
  refine ⟨_, pe_slice sl_list pa pl ph, fun S own σ H Q rs h => qa S own σ H _ rs (h.bind.imp (fun xs hx H1 a vs s1 r1 r2 => ql S own σ H1 _ (rs.mono s1) (hx.bind.imp (fun l hl2 H2 s2 => qh S own σ H2 _ ((rs.mono s1).mono s2) (hl2.bind.imp (fun u hu H3 s3 => ?_) fun _ z => (z.mono s1).mono s2)) fun _ z => z.mono s1)) fun _ z => z)⟩
  refine ⟨a, vs, rfl, .inl (.inl (s3 _ _ (s2 _ _ r1))), fun p np => ?_⟩
  have s4 := (s1.trans s2).trans s3
  refine hu (upd H3 p (.lst (cutV vs l u))) p _ (s4.trans (same_upd np)) (s4.free np) upd_same ?_
  rw [hide_new np ((rs.mono s4).fresh np)]
  exact cut_rel (RpAll.mono (hide_same (s2.trans s3)) r2) l u
theorem e_slstr {ma : Res Str} {ml mh : Res (Option Int)} {lo hi : Option Expr} {p2 : Pos} (ha : EG X W true ρ e ma) (hl : OG X W ρ lo ml) (hh : OG X W ρ hi mh) :
    EG X W g ρ (.Subscript e (.Slice lo hi none p2) pos) (ma.bind fun xs => ml.bind fun l => mh.bind fun h => guardR (decide (xs.length ≤ sizeLine)) (.ok (cutS xs l h))) := by
  obtain ⟨ta, pa, qa⟩ := ha.ex
  obtain ⟨tl, pl, ql⟩ := hl.ex
  obtain ⟨th, ph, qh⟩ := hh.ex
  refine ⟨_, pe_slice sl_str pa pl ph, fun S own σ H Q rs h => qa S own σ H _ rs (h.bind.imp (fun xs hx H1 v s1 r1 => ql S own σ H1 _ (rs.mono s1) (hx.bind.imp (fun l hl2 H2 s2 => qh S own σ H2 _ ((rs.mono s1).mono s2) (hl2.bind.imp (fun u hu H3 s3 => ?_) fun _ z => (z.mono s1).mono s2)) fun _ z => z.mono s1)) fun _ z => z)⟩
  obtain ⟨h1, hu⟩ := hu.guard
  exact ⟨xs, r1, of_decide_eq_true h1, hu H3 _ ((s1.trans s2).trans s3) rfl⟩

/-! ### built-in calls -/
theorem b_flat {x : Str} {p : Pos} {id : String} {r : List V → Hp → VK → Prop} {f : A → Res C} [Flat C] {ma : Res A} (hc : CallR X (.builtin id) r) (hm : X.mg x = none) (ha : EG X W true ρ a ma)
    (hr : ∀ (B1 : List Addr) (H : Hp) (x : A) (v : V) (Q : VK), rp X.K (hide B1 H) v x → Post (f x) (fun z => ∀ w', rp X.K H w' z → Q w' H) (fun _ => True) → r [v] H Q)
    (hv : bootBuiltins x = some (.builtin id) := by decide +kernel) (hg : Gl X x := by rfl) (hn : x ≠ "__name__" := by decide) (hdb : (x == ("__debug__" : Str)) = false := by decide)
    (he : starEach [a] X.env = (false, eval a X.env) :: starEach [] X.env := by rfl) (hpl : (backTo pos (starEach [] X.env)).any (·.1) = false := by rfl) : EG X W g ρ (.Call (.Name x p) [a] [] pos) (ma.bind f) := by
  obtain ⟨ta, pa, qa⟩ := ha.ex
  refine ⟨_, pe_callB hc hg hm hv (pa_cons pa pa_nil he) hn hdb he hpl, fun S own σ H Q rs h => one_run (R' := fun v H2 => r [v] H2 Q) qa rs h fun x v H2 s r1 hp => hr _ H2 x v Q r1 (hp.imp (fun z hz w' rw' => hz H2 w' s (Flat.any rw')) fun _ _ => trivial)⟩
theorem bt_flat {x : Str} {p : Pos} {id : String} {r : List V → Hp → VK → Prop} {f : A → Res C} [Flat C] {ma : Res A} (hc : CallR X (.type id) r) (hm : X.mg x = none) (ha : EG X W true ρ a ma)
    (hr : ∀ (B1 : List Addr) (H : Hp) (x : A) (v : V) (Q : VK), rp X.K (hide B1 H) v x → Post (f x) (fun z => ∀ w', rp X.K H w' z → Q w' H) (fun _ => True) → r [v] H Q)
    (hv : bootBuiltins x = some (.type id) := by decide +kernel) (hg : Gl X x := by rfl) (hn : x ≠ "__name__" := by decide) (hdb : (x == ("__debug__" : Str)) = false := by decide)
    (he : starEach [a] X.env = (false, eval a X.env) :: starEach [] X.env := by rfl) (hpl : (backTo pos (starEach [] X.env)).any (·.1) = false := by rfl) : EG X W g ρ (.Call (.Name x p) [a] [] pos) (ma.bind f) := by
  obtain ⟨ta, pa, qa⟩ := ha.ex
  refine ⟨_, pe_callTy hc hg hm hv (pa_cons pa pa_nil he) hn hdb he hpl, fun S own σ H Q rs h => one_run (R' := fun v H2 => r [v] H2 Q) qa rs h fun x v H2 s r1 hp => hr _ H2 x v Q r1 (hp.imp (fun z hz w' rw' => hz H2 w' s (Flat.any rw')) fun _ _ => trivial)⟩
/-- len -/
class Len (T : Type) [Rp T] where
  len : T → Res Int
  ok : ∀ {K : PySem.W.Frag} {B : List Addr} {H : Hp} {v : V} {x : T} {Q : Int → Prop}, rp K (hide B H) v x → Post (len x) Q (fun _ => True) → ∃ n : Nat, LenV K v H n ∧ Q n
instance : Len (List T) where
  len xs := .ok (xs.length : Int)
  ok {K B H v x Q} r h := by
    obtain ⟨a, vs, rfl, e1, e2⟩ := r
    exact ⟨x.length, .inl ⟨vs, .inl (.inl (hide_sub _ _ e1)), e2.length.symm⟩, h⟩
instance : Len (Tup T) where
  len xs := .ok (xs.l.length : Int)
  ok {K B H v x Q} r h := by
    obtain ⟨a, vs, rfl, e1, e2⟩ := r
    exact ⟨x.l.length, .inr ⟨vs, SqT.same hide_sub e1, e2.length.symm⟩, h⟩
instance : Len Scr where
  len xs := .ok (xs.ns.length : Int)
  ok {K B H v x Q} r h := by
    obtain ⟨a, rfl, e1⟩ := r
    exact ⟨x.ns.length, .inl ⟨_, hide_sub.seq e1, by rw [List.length_map]⟩, h⟩
instance : Len Str where
  len z := guardR (decide (z.length ≤ sizeLine)) (.ok (z.length : Int))
  ok {K B H v x Q} r h := by
    cases r
    obtain ⟨h1, h2⟩ := h.guard
    exact ⟨x.length, ⟨of_decide_eq_true h1, rfl⟩, h2⟩
instance (priority := low) {A : Type} [Places A] : Len A where
  len x := .ok ((Places.av x).length : Int)
  ok {K B H v x Q} r h := by
    obtain ⟨a, vs, rfl, e1, e2⟩ := r
    exact ⟨_, .inr ⟨vs, SqT.same hide_sub e1, e2.length.symm⟩, h⟩
theorem e_len {p : Pos} [Len A] {ma : Res A} (ha : EG X W true ρ a ma) (hm : X.mg "len" = none) (hg : Gl X "len" := by rfl)
    (he : starEach [a] X.env = (false, eval a X.env) :: starEach [] X.env := by rfl) (hpl : (backTo pos (starEach [] X.env)).any (·.1) = false := by rfl) : EG X W g ρ (.Call (.Name "len" p) [a] [] pos) (ma.bind Len.len) :=
  b_flat call_len hm ha (fun B1 H x v Q r h => by
    obtain ⟨n, h1, h2⟩ := Len.ok (Q := fun z => Q (.int z) H) r (h.imp (fun z hz => hz (.int z) rfl) fun _ z => z)
    exact ⟨v, n, rfl, h1, h2⟩) (by decide +kernel) hg (by decide) (by decide) he hpl
theorem e_int1 {p : Pos} {ma : Res Int} (ha : EG X W true ρ a ma) (hm : X.mg "int" = none) (hg : Gl X "int" := by rfl)
    (he : starEach [a] X.env = (false, eval a X.env) :: starEach [] X.env := by rfl) (hpl : (backTo pos (starEach [] X.env)).any (·.1) = false := by rfl) : EG X W g ρ (.Call (.Name "int" p) [a] [] pos) (ma.bind fun x => .ok x) :=
  bt_flat (f := fun x => .ok x) call_int1 hm ha (fun B1 H x v Q r h => by
    cases r
    exact .inl ⟨x, rfl, h _ rfl⟩) (by decide +kernel) hg (by decide) (by decide) he hpl
theorem e_abs {p : Pos} {ma : Res Int} (ha : EG X W true ρ a ma) (hm : X.mg "abs" = none) (hg : Gl X "abs" := by rfl)
    (he : starEach [a] X.env = (false, eval a X.env) :: starEach [] X.env := by rfl) (hpl : (backTo pos (starEach [] X.env)).any (·.1) = false := by rfl) : EG X W g ρ (.Call (.Name "abs" p) [a] [] pos) (ma.bind fun x => .ok (x.natAbs : Int)) :=
  b_flat (f := fun x => .ok (x.natAbs : Int)) call_abs hm ha (fun B1 H x v Q r h => by
    cases r
    refine ⟨x, rfl, ?_⟩
    have e : (if x < 0 then -x else x) = (x.natAbs : Int) := by split <;> omega
    rw [e]
    exact h _ rfl) (by decide +kernel) hg (by decide) (by decide) he hpl
theorem e_strint {p : Pos} {ma : Res Int} (ha : EG X W true ρ a ma) (hm : X.mg "str" = none) (hg : Gl X "str" := by rfl)
    (he : starEach [a] X.env = (false, eval a X.env) :: starEach [] X.env := by rfl) (hpl : (backTo pos (starEach [] X.env)).any (·.1) = false := by rfl) : EG X W g ρ (.Call (.Name "str" p) [a] [] pos) (ma.bind fun x => guardR (decide (x.natAbs.log2 < 1920)) (.ok (toString x : Str))) :=
  bt_flat (f := fun x => guardR (decide (x.natAbs.log2 < 1920)) (.ok (toString x : Str))) call_str_int hm ha (fun B1 H x v Q r h => by
    cases r
    obtain ⟨h1, h2⟩ := h.guard
    exact ⟨x, rfl, of_decide_eq_true h1, h2 _ rfl⟩) (by decide +kernel) hg (by decide) (by decide) he hpl
/-- a built-in over a list, its value flat -/
theorem b_list {x : Str} {p : Pos} {id : String} {r : List V → Hp → VK → Prop} {f : List A → Res C} [Flat C] {ma : Res (List A)} (hc : CallR X (.builtin id) r) (hm : X.mg x = none) (ha : LG X W ρ a ma)
    (hr : ∀ (B1 : List Addr) (H : Hp) (xs : List A) (p : Addr) (vs : List V) (Q : VK), H p = some (.lst vs) → RpAll X.K (hide B1 H) vs xs → Post (f xs) (fun z => ∀ w', rp X.K H w' z → Q w' H) (fun _ => True) → r [.ref p] H Q)
    (hv : bootBuiltins x = some (.builtin id) := by decide +kernel) (hg : Gl X x := by rfl) (hn : x ≠ "__name__" := by decide) (hdb : (x == ("__debug__" : Str)) = false := by decide)
    (he : starEach [a] X.env = (false, eval a X.env) :: starEach [] X.env := by rfl) (hpl : (backTo pos (starEach [] X.env)).any (·.1) = false := by rfl) : EG X W g ρ (.Call (.Name x p) [a] [] pos) (ma.bind f) := by
  obtain ⟨ta, pa, qa⟩ := ha.ex
  refine ⟨_, pe_callB hc hg hm hv (pa_cons pa pa_nil he) hn hdb he hpl, fun S own σ H Q rs h => lone_run (R' := fun v H2 => r [v] H2 Q) qa rs h fun xs a vs H2 s r1 r2 hp => hr _ H2 xs a vs Q r1 r2 (hp.imp (fun z hz w' rw' => hz H2 w' s (Flat.any rw')) fun _ _ => trivial)⟩
theorem e_sum {p : Pos} {ma : Res (List Int)} (hc : X.calm = true) (ha : LG X W ρ a ma) (hm : X.mg "sum" = none) (hg : Gl X "sum" := by rfl)
    (he : starEach [a] X.env = (false, eval a X.env) :: starEach [] X.env := by rfl) (hpl : (backTo pos (starEach [] X.env)).any (·.1) = false := by rfl) : EG X W g ρ (.Call (.Name "sum" p) [a] [] pos) (ma.bind fun xs => .ok xs.sum) :=
  b_list (f := fun xs => .ok xs.sum) (cr_sum hc) hm ha (fun B1 H xs p vs Q e r h => ⟨p, xs, rfl, .inl (.inl (r.int ▸ e)), h _ rfl⟩) (by decide +kernel) hg (by decide) (by decide) he hpl
theorem e_any {p : Pos} {ma : Res (List Bool)} (hc : X.calm = true) (ha : LG X W ρ a ma) (hm : X.mg "any" = none) (hg : Gl X "any" := by rfl)
    (he : starEach [a] X.env = (false, eval a X.env) :: starEach [] X.env := by rfl) (hpl : (backTo pos (starEach [] X.env)).any (·.1) = false := by rfl) : EG X W g ρ (.Call (.Name "any" p) [a] [] pos) (ma.bind fun xs => .ok (xs.any id)) :=
  b_list (f := fun xs => .ok (xs.any id)) (cr_any hc) hm ha (fun B1 H xs p vs Q e r h => ⟨p, xs, rfl, .inl (.inl (r.bl ▸ e)), h _ rfl⟩) (by decide +kernel) hg (by decide) (by decide) he hpl
theorem e_all {p : Pos} {ma : Res (List Bool)} (hc : X.calm = true) (ha : LG X W ρ a ma) (hm : X.mg "all" = none) (hg : Gl X "all" := by rfl)
    (he : starEach [a] X.env = (false, eval a X.env) :: starEach [] X.env := by rfl) (hpl : (backTo pos (starEach [] X.env)).any (·.1) = false := by rfl) : EG X W g ρ (.Call (.Name "all" p) [a] [] pos) (ma.bind fun xs => .ok (xs.all id)) :=
  b_list (f := fun xs => .ok (xs.all id)) (cr_all hc) hm ha (fun B1 H xs p vs Q e r h => ⟨p, xs, rfl, .inl (.inl (r.bl ▸ e)), h _ rfl⟩) (by decide +kernel) hg (by decide) (by decide) he hpl
theorem e_max2 {p : Pos} {ma mb : Res Int} (hc : X.calm = true) (ha : EG X W true ρ a ma) (hb : EG X W true ρ b mb) (hm : X.mg "max" = none) (hg : Gl X "max" := by rfl)
    (he : starEach [a, b] X.env = (false, eval a X.env) :: starEach [b] X.env := by rfl) (he2 : starEach [b] X.env = (false, eval b X.env) :: starEach [] X.env := by rfl) (hpl : (backTo pos (starEach [b] X.env)).any (·.1) = false := by rfl) :
    EG X W g ρ (.Call (.Name "max" p) [a, b] [] pos) (ma.bind fun x => mb.bind fun y => .ok (if y > x then y else x)) := by
  obtain ⟨ta, pa, qa⟩ := ha.ex
  obtain ⟨tb, pb, qb⟩ := hb.ex
  refine ⟨_, pe_callB (call_max2 hc) hg hm (by decide +kernel) (pa_cons pa (pa_cons pb pa_nil he2) he) (by decide) (by decide) he hpl, fun S own σ H Q rs h => two_run (R' := fun v u H2 => ∃ i j, [v, u] = [V.int i, V.int j] ∧ Q (.int (if j > i then j else i)) H2) qa qb rs h fun x y v u H2 s r1 r2 hp => ?_⟩
  cases r1
  cases r2
  exact ⟨x, y, rfl, hp H2 _ s rfl⟩
theorem e_min2 {p : Pos} {ma mb : Res Int} (hc : X.calm = true) (ha : EG X W true ρ a ma) (hb : EG X W true ρ b mb) (hm : X.mg "min" = none) (hg : Gl X "min" := by rfl)
    (he : starEach [a, b] X.env = (false, eval a X.env) :: starEach [b] X.env := by rfl) (he2 : starEach [b] X.env = (false, eval b X.env) :: starEach [] X.env := by rfl) (hpl : (backTo pos (starEach [b] X.env)).any (·.1) = false := by rfl) :
    EG X W g ρ (.Call (.Name "min" p) [a, b] [] pos) (ma.bind fun x => mb.bind fun y => .ok (if y < x then y else x)) := by
  obtain ⟨ta, pa, qa⟩ := ha.ex
  obtain ⟨tb, pb, qb⟩ := hb.ex
  refine ⟨_, pe_callB (call_min2 hc) hg hm (by decide +kernel) (pa_cons pa (pa_cons pb pa_nil he2) he) (by decide) (by decide) he hpl, fun S own σ H Q rs h => two_run (R' := fun v u H2 => ∃ i j, [v, u] = [V.int i, V.int j] ∧ Q (.int (if j < i then j else i)) H2) qa qb rs h fun x y v u H2 s r1 r2 hp => ?_⟩
  cases r1
  cases r2
  exact ⟨x, y, rfl, hp H2 _ s rfl⟩
theorem e_gcd {x : Str} {p : Pos} {ma mb : Res Int} (ha : EG X W true ρ a ma) (hb : EG X W true ρ b mb) (hm : X.mg x = some (.builtin "math.gcd")) (hg : Gl X x := by rfl) (hdb : (x == ("__debug__" : Str)) = false := by decide)
    (he : starEach [a, b] X.env = (false, eval a X.env) :: starEach [b] X.env := by rfl) (he2 : starEach [b] X.env = (false, eval b X.env) :: starEach [] X.env := by rfl) (hpl : (backTo pos (starEach [b] X.env)).any (·.1) = false := by rfl) :
    EG X W g ρ (.Call (.Name x p) [a, b] [] pos) (ma.bind fun x => mb.bind fun y => .ok ((Nat.gcd x.natAbs y.natAbs : Nat) : Int)) := by
  obtain ⟨ta, pa, qa⟩ := ha.ex
  obtain ⟨tb, pb, qb⟩ := hb.ex
  refine ⟨_, pe_callBfun cr_gcd hg hm (pa_cons pa (pa_cons pb pa_nil he2) he) hdb he hpl, fun S own σ H Q rs h => two_run (R' := fun v u H2 => rGcd [v, u] H2 Q) qa qb rs h fun x y v u H2 s r1 r2 hp => ?_⟩
  cases r1
  cases r2
  exact ⟨x, y, rfl, hp H2 _ s rfl⟩

/-! ### new lists, tuples by calls -/
theorem f_listof {p : Pos} {ma : Res (List T)} (ha : LG X W ρ a ma) (hm : X.mg "list" = none) (hg : Gl X "list" := by rfl)
    (he : starEach [a] X.env = (false, eval a X.env) :: starEach [] X.env := by rfl) (hpl : (backTo pos (starEach [] X.env)).any (·.1) = false := by rfl) : FG X W ρ (.Call (.Name "list" p) [a] [] pos) (ma.bind fun xs => .ok xs) := by
  obtain ⟨ta, pa, qa⟩ := ha.ex
  refine ⟨_, pe_callTy call_list_of hg hm (by decide +kernel) (pa_cons pa pa_nil he) (by decide) (by decide) he hpl, fun S own σ H Q rs h => lone_run (R' := fun v H2 => ∃ p ys, [v] = [V.ref p] ∧ (SqL X.K H2 p ys ∨ SqT X.K H2 p ys) ∧ ∀ l, H2 l = none → Q (.ref l) (upd H2 l (.lst ys))) qa rs h fun xs a vs H2 s r1 r2 hp => ?_⟩
  refine ⟨a, vs, rfl, .inl (.inl (.inl r1)), fun l nl => hp (upd H2 l (.lst vs)) l vs (s.trans (same_upd nl)) (s.free nl) upd_same ?_⟩
  rw [hide_new nl ((rs.mono s).fresh nl)]
  exact r2
theorem f_listoft {p : Pos} {ma : Res (Tup T)} (ha : EG X W true ρ a ma) (hm : X.mg "list" = none) (hg : Gl X "list" := by rfl)
    (he : starEach [a] X.env = (false, eval a X.env) :: starEach [] X.env := by rfl) (hpl : (backTo pos (starEach [] X.env)).any (·.1) = false := by rfl) : FG X W ρ (.Call (.Name "list" p) [a] [] pos) (ma.bind fun xs => .ok xs.l) := by
  obtain ⟨ta, pa, qa⟩ := ha.ex
  refine ⟨_, pe_callTy call_list_of hg hm (by decide +kernel) (pa_cons pa pa_nil he) (by decide) (by decide) he hpl, fun S own σ H Q rs h => one_run (R' := fun v H2 => ∃ p ys, [v] = [V.ref p] ∧ (SqL X.K H2 p ys ∨ SqT X.K H2 p ys) ∧ ∀ l, H2 l = none → Q (.ref l) (upd H2 l (.lst ys))) qa rs h fun xs v H2 s r1 hp => ?_⟩
  obtain ⟨a, vs, rfl, h1, r2⟩ := r1
  refine ⟨a, vs, rfl, .inr (SqT.same hide_sub h1), fun l nl => hp (upd H2 l (.lst vs)) l vs (s.trans (same_upd nl)) (s.free nl) upd_same ?_⟩
  rw [hide_new nl ((rs.mono s).fresh nl)]
  exact r2
theorem e_tupof {p : Pos} {ma : Res (List T)} (ha : LG X W ρ a ma) (hm : X.mg "tuple" = none) (hg : Gl X "tuple" := by rfl)
    (he : starEach [a] X.env = (false, eval a X.env) :: starEach [] X.env := by rfl) (hpl : (backTo pos (starEach [] X.env)).any (·.1) = false := by rfl) : EG X W g ρ (.Call (.Name "tuple" p) [a] [] pos) (ma.bind fun xs => .ok (⟨xs⟩ : Tup T)) := by
  obtain ⟨ta, pa, qa⟩ := ha.ex
  refine ⟨_, pe_callTy call_tuple_of hg hm (by decide +kernel) (pa_cons pa pa_nil he) (by decide) (by decide) he hpl, fun S own σ H Q rs h => lone_run (R' := fun v H2 => ∃ p ys, [v] = [V.ref p] ∧ ((SqL X.K H2 p ys ∧ ∀ l, H2 l = none → Q (.ref l) (upd H2 l (.tup ys))) ∨ (SqT X.K H2 p ys ∧ Q (.ref p) H2))) qa rs h fun xs a vs H2 s r1 r2 hp => ?_⟩
  refine ⟨a, vs, rfl, .inl ⟨.inl (.inl r1), fun l nl => hp _ (.ref l) (s.trans (same_upd nl)) ⟨l, vs, rfl, .inl (.inl ?_), ?_⟩⟩⟩
  · rw [hide_out fun z => (rs.mono s).dom l (reg_sub l z) nl, upd_same]
  · exact RpAll.mono (hide_same (same_upd nl)) (RpAll.mono (hide_mono reg_sub) r2)
theorem f_cat {ma mb : Res (List T)} (ha : LG X W ρ a ma) (hb : LG X W ρ b mb) : FG X W ρ (.BinOp a .Add b pos) (ma.bind fun xs => mb.bind fun ys => guardR (decide (xs.length + ys.length ≤ sizeLine)) (.ok (xs ++ ys))) := by
  obtain ⟨ta, pa, qa⟩ := ha.ex
  obtain ⟨tb, pb, qb⟩ := hb.ex
  refine ⟨_, pe_op op_cat pa pb, fun S own σ H Q rs h => qa S own σ H _ rs (h.bind.imp (fun xs hx H1 l vs s1 r1 r2 => qb S own σ H1 _ (rs.mono s1) (hx.bind.imp (fun ys hy H2 k us s2 r3 r4 => ?_) fun _ z => z.mono s1)) fun _ z => z)⟩
  obtain ⟨h1, hy⟩ := hy.guard
  have s := s1.trans s2
  refine ⟨l, k, vs, us, rfl, rfl, s2 _ _ r1, r3, by rw [r2.length, r4.length]; exact of_decide_eq_true h1, fun p np => hy (upd H2 p (.lst (vs ++ us))) p _ (s.trans (same_upd np)) (s.free np) upd_same ?_⟩
  rw [hide_new np ((rs.mono s).fresh np)]
  exact (RpAll.mono (hide_same s2) r2).append r4
theorem RpAll.rep {K : PySem.W.Frag} {H : Hp} {vs : List V} {xs : List T} (r : RpAll K H vs xs) : ∀ k : Nat, RpAll K H (List.replicate k vs).flatten (List.replicate k xs).flatten
  | 0 => .nil
  | k + 1 => by
    rw [List.replicate_succ, List.replicate_succ, List.flatten_cons, List.flatten_cons]
    exact r.append (RpAll.rep r k)
def repM {α : Type} (xs : List α) (k : Int) : Res (List α) := guardR (decide (-(2 ^ 63) ≤ k) && (decide (k < 2 ^ 63) && decide (xs.length * k.toNat ≤ sizeLine))) (.ok (List.replicate k.toNat xs).flatten)
theorem f_rep {ma : Res (List T)} {mb : Res Int} (ha : LG X W ρ a ma) (hb : EG X W true ρ b mb) : FG X W ρ (.BinOp a .Mult b pos) (ma.bind fun xs => mb.bind fun k => repM xs k) := by
  obtain ⟨ta, pa, qa⟩ := ha.ex
  obtain ⟨tb, pb, qb⟩ := hb.ex
  refine ⟨_, pe_op op_rep pa pb, fun S own σ H Q rs h => ltwo_run (R' := fun v u H2 => rRep v u H2 Q) qa qb rs h fun xs k l vs u H2 s r1 r2 r3 hp => ?_⟩
  obtain ⟨h1, hp⟩ := hp.guard
  simp only [Bool.and_eq_true, decide_eq_true_eq] at h1
  refine ⟨l, k, vs, rfl, r3, r1, h1.1, h1.2.1, by rw [r2.length]; exact h1.2.2, fun p np => hp (upd H2 p (.lst (List.replicate k.toNat vs).flatten)) p _ (s.trans (same_upd np)) (s.free np) upd_same ?_⟩
  rw [hide_new np ((rs.mono s).fresh np)]
  exact RpAll.rep r2 _
end
end Py

set_option Elab.async false
set_option linter.all false
set_option maxRecDepth 100000
set_option maxHeartbeats 1000000
/-! Py, part D: statements, loops, comprehensions, defs. -/
namespace Py
open PySem PySem.Spec L2
open Rp (rp)

/-! ### slots set, forgotten, let go -/
inductive Wk : List Slot → List Slot → Prop where
  | nil : Wk [] []
  | s {x : Slot} {ρ ρ' : List Slot} : Wk ρ ρ' → Wk (x :: ρ) (x :: ρ')
  | n {x : Slot} {ρ ρ' : List Slot} : Wk ρ ρ' → Wk (x :: ρ) (.non :: ρ')
theorem Wk.refl : ∀ ρ : List Slot, Wk ρ ρ
  | [] => .nil
  | _ :: r => .s (Wk.refl r)
theorem Rs.wk {K : PySem.W.Frag} {Hs H : Hp} {ρ ρ' : List Slot} (w : Wk ρ ρ') : ∀ {σ : St} {ads : List Addr}, Rs K Hs H ρ σ ads → ∃ ads', Rs K Hs H ρ' σ ads' ∧ ads'.Sublist ads := by
  induction w with
  | nil => intro σ ads r; exact ⟨ads, r, List.Sublist.refl _⟩
  | @s x ρ ρ' _ ih =>
    intro σ ads r
    cases r with
    | non r => obtain ⟨a, h1, h2⟩ := ih r; exact ⟨a, .non h1, h2⟩
    | val h r => obtain ⟨a, h1, h2⟩ := ih r; exact ⟨a, .val h h1, h2⟩
    | own h0 h1 h2 r => obtain ⟨a, q1, q2⟩ := ih r; exact ⟨_, .own h0 h1 h2 q1, q2.cons₂ _⟩
    | ow h r => obtain ⟨a, q1, q2⟩ := ih r; exact ⟨_, .ow h q1, (List.Sublist.refl _).append q2⟩
  | @n x ρ ρ' _ ih =>
    intro σ ads r
    cases r with
    | non r => obtain ⟨a, h1, h2⟩ := ih r; exact ⟨a, .non h1, h2⟩
    | val h r => obtain ⟨a, h1, h2⟩ := ih r; exact ⟨a, .non h1, h2⟩
    | own h0 h1 h2 r => obtain ⟨a, q1, q2⟩ := ih r; exact ⟨a, .non q1, q2.cons _⟩
    | ow h r => obtain ⟨a, q1, q2⟩ := ih r; exact ⟨a, .non q1, q2.trans (List.sublist_append_right _ _)⟩
theorem RS.wk {K : PySem.W.Frag} {S own : List Addr} {ρ ρ' : List Slot} {σ : St} {H : Hp} (w : Wk ρ ρ') (r : RS K S ρ σ H own) : RS K S ρ' σ H own := by
  obtain ⟨⟨ads, h1, h2, h3⟩, h4, h5⟩ := r
  obtain ⟨ads', q1, q2⟩ := h1.wk w
  exact ⟨⟨ads', q1, h2.sublist q2, fun a ha => h3 a (q2.subset ha)⟩, h4, h5⟩
theorem Rs.set {K : PySem.W.Frag} {Hs H : Hp} {T : Type} [Rp T] {v : V} {x : T} (h : rp K Hs v x) {ρ : List Slot} {σ : St} {ads : List Addr} (r : Rs K Hs H ρ σ ads) : ∀ i : Nat, ∃ ads', Rs K Hs H (ρ.set i (.val T x)) (σ.set i (some v)) ads' ∧ ads'.Sublist ads := by
  induction r with
  | nil => intro i; exact ⟨[], .nil, List.Sublist.refl _⟩
  | non r ih =>
    intro i
    cases i with
    | zero => exact ⟨_, .val h r, List.Sublist.refl _⟩
    | succ i => obtain ⟨a, q1, q2⟩ := ih i; exact ⟨a, .non q1, q2⟩
  | val h1 r ih =>
    intro i
    cases i with
    | zero => exact ⟨_, .val h r, List.Sublist.refl _⟩
    | succ i => obtain ⟨a, q1, q2⟩ := ih i; exact ⟨a, .val h1 q1, q2⟩
  | own h0 h1 h2 r ih =>
    intro i
    cases i with
    | zero => exact ⟨_, .val h r, List.sublist_cons_self _ _⟩
    | succ i => obtain ⟨a, q1, q2⟩ := ih i; exact ⟨_, .own h0 h1 h2 q1, q2.cons₂ _⟩
  | ow h1 r ih =>
    intro i
    cases i with
    | zero => exact ⟨_, .val h r, List.sublist_append_right _ _⟩
    | succ i => obtain ⟨a, q1, q2⟩ := ih i; exact ⟨_, .ow h1 q1, (List.Sublist.refl _).append q2⟩
theorem RS.set {K : PySem.W.Frag} {S own : List Addr} {ρ : List Slot} {σ : St} {H : Hp} {T : Type} [Rp T] {v : V} {x : T} (r : RS K S ρ σ H own) (h : rp K (hide (S ++ own) H) v x) (i : Nat) : RS K S (ρ.set i (.val T x)) (σ.set i (some v)) H own := by
  obtain ⟨⟨ads, h1, h2, h3⟩, h4, h5⟩ := r
  obtain ⟨ads', q1, q2⟩ := Rs.set h h1 i
  exact ⟨⟨ads', q1, h2.sublist q2, fun a ha => h3 a (q2.subset ha)⟩, h4, h5⟩
theorem Rs.setOwn {K : PySem.W.Frag} {Hs H : Hp} {T : Type} [Rp T] {a : Addr} {vs : List V} {xs : List T} (e : H a = some (.lst vs)) (h : RpAll K Hs vs xs) {ρ : List Slot} {σ : St} {ads : List Addr} (r : Rs K Hs H ρ σ ads) : ∀ i : Nat, i < ρ.length → a ∉ ads → ads.Nodup →
    ∃ ads', Rs K Hs H (ρ.set i (.own T none xs)) (σ.set i (some (.ref a))) ads' ∧ ads'.Nodup ∧ ∀ b ∈ ads', b = a ∨ b ∈ ads := by
  have hno : ∀ b, (none : Option Addr) = some b → b = a := fun _ z => nomatch z
  induction r with
  | nil => intro i hi; exact absurd hi (Nat.not_lt_zero _)
  | non r ih =>
    intro i hi hn nd
    cases i with
    | zero => exact ⟨_, .own hno e h r, List.nodup_cons.mpr ⟨hn, nd⟩, fun b hb => (List.mem_cons.mp hb).imp id id⟩
    | succ i => obtain ⟨as, q1, q2, q3⟩ := ih i (Nat.lt_of_succ_lt_succ hi) hn nd; exact ⟨as, .non q1, q2, q3⟩
  | val h1 r ih =>
    intro i hi hn nd
    cases i with
    | zero => exact ⟨_, .own hno e h r, List.nodup_cons.mpr ⟨hn, nd⟩, fun b hb => (List.mem_cons.mp hb).imp id id⟩
    | succ i => obtain ⟨as, q1, q2, q3⟩ := ih i (Nat.lt_of_succ_lt_succ hi) hn nd; exact ⟨as, .val h1 q1, q2, q3⟩
  | own h0 h1 h2 r ih =>
    intro i hi hn nd
    cases i with
    | zero => exact ⟨_, .own hno e h r, List.nodup_cons.mpr ⟨fun z => hn (List.mem_cons_of_mem _ z), (List.nodup_cons.mp nd).2⟩, fun b hb => (List.mem_cons.mp hb).imp id fun z => List.mem_cons_of_mem _ z⟩
    | succ i =>
      obtain ⟨as, q1, q2, q3⟩ := ih i (Nat.lt_of_succ_lt_succ hi) (fun z => hn (List.mem_cons_of_mem _ z)) (List.nodup_cons.mp nd).2
      refine ⟨_, .own h0 h1 h2 q1, List.nodup_cons.mpr ⟨fun z => ?_, q2⟩, fun b hb => ?_⟩
      · rcases q3 _ z with z | z
        · exact hn (z ▸ List.mem_cons_self)
        · exact (List.nodup_cons.mp nd).1 z
      · rcases List.mem_cons.mp hb with z | z
        · exact .inr (z ▸ List.mem_cons_self)
        · exact (q3 b z).imp id fun z => List.mem_cons_of_mem _ z
  | ow h1 r ih =>
    intro i hi hn nd
    have nd2 := List.nodup_append.mp nd
    cases i with
    | zero => exact ⟨_, .own hno e h r, List.nodup_cons.mpr ⟨fun z => hn (List.mem_append_right _ z), nd2.2.1⟩, fun b hb => (List.mem_cons.mp hb).imp id fun z => List.mem_append_right _ z⟩
    | succ i =>
      obtain ⟨as, q1, q2, q3⟩ := ih i (Nat.lt_of_succ_lt_succ hi) (fun z => hn (List.mem_append_right _ z)) nd2.2.1
      refine ⟨_, .ow h1 q1, List.nodup_append.mpr ⟨nd2.1, q2, fun x hx y hy => ?_⟩, fun b hb => ?_⟩
      · rcases q3 _ hy with z | z
        · exact fun w => hn (List.mem_append_left _ (z ▸ w ▸ hx))
        · exact nd2.2.2 x hx y z
      · rcases List.mem_append.mp hb with z | z
        · exact .inr (List.mem_append_left _ z)
        · exact (q3 b z).imp id fun z => List.mem_append_right _ z
theorem same_hide_new {S own : List Addr} {H H' : Hp} {a : Addr} (s : Same H H') (na : H a = none) : Same (hide (S ++ own) H) (hide (S ++ a :: own) H') := fun b o e => by
  obtain ⟨h1, h2⟩ := hide_some e
  have hb : b ≠ a := fun z => by rw [z, na] at h2; cases h2
  rw [hide_out, s b o h2]
  intro z
  rcases List.mem_append.mp z with z | z
  · exact h1 (List.mem_append_left _ z)
  · rcases List.mem_cons.mp z with z | z
    · exact hb z
    · exact h1 (List.mem_append_right _ z)
/-- a new list is kept in slot i -/
theorem RS.setOwn {K : PySem.W.Frag} {S own : List Addr} {ρ : List Slot} {σ : St} {H H' : Hp} {T : Type} [Rp T] {a : Addr} {vs : List V} {xs : List T} (r : RS K S ρ σ H own) (s : Same H H') (na : H a = none) (e : H' a = some (.lst vs)) (h : RpAll K (hide (a :: (S ++ own)) H') vs xs)
    (i : Nat) (hi : i < ρ.length) : RS K S (ρ.set i (.own T none xs)) (σ.set i (some (.ref a))) H' (a :: own) := by
  obtain ⟨⟨ads, h1, h2, h3⟩, h4, h5⟩ := r
  have nS : a ∉ S ++ own := fun z => h5 a z na
  have h1' := h1.mono (same_hide_new s na) fun b _ o q => s b o q
  have hh : RpAll K (hide (S ++ a :: own) H') vs xs := by
    refine RpAll.mono (hide_mono fun b hb => ?_) h
    rcases List.mem_append.mp hb with z | z
    · exact List.mem_cons_of_mem _ (List.mem_append_left _ z)
    · rcases List.mem_cons.mp z with z | z
      · exact z ▸ List.mem_cons_self
      · exact List.mem_cons_of_mem _ (List.mem_append_right _ z)
  obtain ⟨ads', q1, q2, q3⟩ := Rs.setOwn e hh h1' i hi (fun z => nS (List.mem_append_right _ (h3 a z))) h2
  refine ⟨⟨ads', q1, q2, fun b hb => ?_⟩, fun b hb => ?_, fun b hb => ?_⟩
  · rcases q3 b hb with z | z
    · exact List.mem_cons.mpr (.inl z)
    · exact List.mem_cons_of_mem _ (h3 b z)
  · rcases List.mem_cons.mp hb with z | z
    · exact z ▸ fun q => nS (List.mem_append_left _ q)
    · exact h4 b z
  · rcases List.mem_append.mp hb with z | z
    · exact dom_same s (h5 b (List.mem_append_left _ z))
    · rcases List.mem_cons.mp z with z | z
      · rw [z, e]; intro q; cases q
      · exact dom_same s (h5 b (List.mem_append_right _ z))
/-- the kept list of slot i is written -/
theorem Rs.write {K : PySem.W.Frag} {Hs H : Hp} {T : Type} [Rp T] {vs' : List V} {ys : List T} (h : RpAll K Hs vs' ys) {ρ : List Slot} {σ : St} {ads : List Addr} (r : Rs K Hs H ρ σ ads) : ∀ {i : Nat} {ao : Option Addr} {xs : List T} {a : Addr}, ρ[i]? = some (.own T ao xs) → σ[i]? = some (some (.ref a)) →
    ads.Nodup → Rs K Hs (upd H a (.lst vs')) (ρ.set i (.own T ao ys)) σ ads := by
  induction r with
  | nil => intro i ao xs a e1; cases e1
  | non r ih =>
    intro i ao xs a e1 e2 nd
    cases i with
    | zero => cases e1
    | succ i => exact .non (ih (i := i) e1 e2 nd)
  | val q r ih =>
    intro i ao xs a e1 e2 nd
    cases i with
    | zero => cases e1
    | succ i => exact .val q (ih (i := i) e1 e2 nd)
  | @own ρ σ as T' inst ao' xs' b ws h0 h1 h2 r ih =>
    intro i ao xs a e1 e2 nd
    cases i with
    | zero =>
      cases e1
      cases e2
      refine .own h0 upd_same h (r.mono (Same.refl _) fun b hb o q => ?_)
      rw [upd_ne (fun z => (List.nodup_cons.mp nd).1 (by rw [← z]; exact hb))]
      exact q
    | succ i =>
      have hb : b ≠ a := by
        obtain ⟨a2, _, z1, z2, _⟩ := r.own_at (show ρ[i]? = _ from e1)
        have : a2 = a := by
          have z3 : σ[i]? = some (some (.ref a)) := e2
          rw [z1] at z3
          cases z3
          rfl
        subst this
        exact fun z => (List.nodup_cons.mp nd).1 (z ▸ z2)
      exact .own h0 (by rw [upd_ne hb]; exact h1) h2 (ih (i := i) e1 e2 (List.nodup_cons.mp nd).2)
  | @ow ρ σ as bs o v q r ih =>
    intro i ao xs a e1 e2 nd
    cases i with
    | zero => cases e1
    | succ i =>
      have nd2 := List.nodup_append.mp nd
      have hb : ∀ b ∈ bs, b ≠ a := by
        obtain ⟨a2, _, z1, z2, _⟩ := r.own_at (show ρ[i]? = _ from e1)
        have : a2 = a := by
          have z3 : σ[i]? = some (some (.ref a)) := e2
          rw [z1] at z3
          cases z3
          rfl
        subst this
        exact fun b hb => nd2.2.2 b hb _ z2
      exact .ow (q.mono (Same.refl _) fun b h o e => by rw [upd_ne (hb b h)]; exact e) (ih (i := i) e1 e2 nd2.2.1)
theorem RS.write {K : PySem.W.Frag} {S own : List Addr} {ρ : List Slot} {σ : St} {H : Hp} {T : Type} [Rp T] {a : Addr} {vs' : List V} {xs ys : List T} {ao : Option Addr} {i : Nat} (r : RS K S ρ σ H own) (e1 : ρ[i]? = some (.own T ao xs)) (e2 : σ[i]? = some (some (.ref a)))
    (h : RpAll K (hide (S ++ own) H) vs' ys) : RS K S (ρ.set i (.own T ao ys)) σ (upd H a (.lst vs')) own ∧ Ext own H own (upd H a (.lst vs')) := by
  obtain ⟨⟨ads, h1, h2, h3⟩, h4, h5⟩ := r
  obtain ⟨a2, _, z1, z2, _⟩ := h1.own_at e1
  have : a2 = a := by
    rw [z1] at e2
    cases e2
    rfl
  subst this
  have hin : a2 ∈ S ++ own := List.mem_append_right _ (h3 _ z2)
  have hd : ∀ b, H b ≠ none → upd H a2 (.lst vs') b ≠ none := fun b hb => by
    by_cases z : b = a2
    · subst z; rw [upd_same]; intro q; cases q
    · rw [upd_ne z]; exact hb
  refine ⟨⟨⟨ads, ?_, h2, h3⟩, h4, fun b hb => hd b (h5 b hb)⟩, fun b o e hb => ?_, hd, fun b hb => .inl hb⟩
  · rw [hide_upd_in hin]
    exact Rs.write h h1 e1 e2 h2
  · rw [upd_ne (fun z => hb (by rw [z]; exact h3 _ z2))]
    exact e
/-- a kept list is let go: from now on it is only read -/
theorem Rs.freeze {K : PySem.W.Frag} {Hs H : Hp} {T : Type} [Rp T] {ρ : List Slot} {σ : St} {ads : List Addr} (r : Rs K Hs H ρ σ ads) : ∀ {i : Nat} {ao : Option Addr} {xs : List T}, ρ[i]? = some (.own T ao xs) → ads.Nodup →
    ∃ a vs ads', a ∈ ads ∧ H a = some (.lst vs) ∧ RpAll K Hs vs xs ∧ ads'.Nodup ∧ (∀ b ∈ ads', b ∈ ads ∧ b ≠ a) ∧ ∀ Hs', Same Hs Hs' → Hs' a = some (.lst vs) → Rs K Hs' H (ρ.set i (.val (List T) xs)) σ ads' := by
  induction r with
  | nil => intro i ao xs e1; cases e1
  | non r ih =>
    intro i ao xs e1 nd
    cases i with
    | zero => cases e1
    | succ i =>
      obtain ⟨a, vs, ads', q1, q2, q3, q4, q5, q6⟩ := ih (i := i) e1 nd
      exact ⟨a, vs, ads', q1, q2, q3, q4, q5, fun Hs' s e => .non (q6 Hs' s e)⟩
  | val h r ih =>
    intro i ao xs e1 nd
    cases i with
    | zero => cases e1
    | succ i =>
      obtain ⟨a, vs, ads', q1, q2, q3, q4, q5, q6⟩ := ih (i := i) e1 nd
      exact ⟨a, vs, ads', q1, q2, q3, q4, q5, fun Hs' s e => .val (Rp.mono s h) (q6 Hs' s e)⟩
  | @own ρ σ as T' inst ao' xs' b ws h0 h1 h2 r ih =>
    intro i ao xs e1 nd
    cases i with
    | zero =>
      cases e1
      exact ⟨_, _, _, List.mem_cons_self, h1, h2, (List.nodup_cons.mp nd).2, fun b hb => ⟨List.mem_cons_of_mem _ hb, fun z => (List.nodup_cons.mp nd).1 (z ▸ hb)⟩, fun Hs' s e => .val ⟨_, _, rfl, e, RpAll.mono s h2⟩ (r.mono s fun _ _ _ q => q)⟩
    | succ i =>
      obtain ⟨a, vs, ads', q1, q2, q3, q4, q5, q6⟩ := ih (i := i) e1 (List.nodup_cons.mp nd).2
      refine ⟨a, vs, b :: ads', List.mem_cons_of_mem _ q1, q2, q3, List.nodup_cons.mpr ⟨fun z => (List.nodup_cons.mp nd).1 (q5 _ z).1, q4⟩, fun c hc => ?_, fun Hs' s e => .own h0 h1 (RpAll.mono s h2) (q6 Hs' s e)⟩
      rcases List.mem_cons.mp hc with z | z
      · exact ⟨z ▸ List.mem_cons_self, z ▸ fun y => (List.nodup_cons.mp nd).1 (y ▸ q1)⟩
      · exact ⟨List.mem_cons_of_mem _ (q5 c z).1, (q5 c z).2⟩
  | @ow ρ σ as bs o v q r ih =>
    intro i ao xs e1 nd
    cases i with
    | zero => cases e1
    | succ i =>
      have nd2 := List.nodup_append.mp nd
      obtain ⟨a, vs, ads', q1, q2, q3, q4, q5, q6⟩ := ih (i := i) e1 nd2.2.1
      refine ⟨a, vs, bs ++ ads', List.mem_append_right _ q1, q2, q3, List.nodup_append.mpr ⟨nd2.1, q4, fun x hx y hy => nd2.2.2 x hx y (q5 y hy).1⟩, fun c hc => ?_, fun Hs' s e => .ow (q.mono s fun _ _ _ e => e) (q6 Hs' s e)⟩
      rcases List.mem_append.mp hc with z | z
      · exact ⟨List.mem_append_left _ z, fun y => nd2.2.2 c z a q1 y⟩
      · exact ⟨List.mem_append_right _ (q5 c z).1, (q5 c z).2⟩
theorem RS.freeze {K : PySem.W.Frag} {S own : List Addr} {ρ : List Slot} {σ : St} {H : Hp} {T : Type} [Rp T] {xs : List T} {ao : Option Addr} {i : Nat} (r : RS K S ρ σ H own) (e1 : ρ[i]? = some (.own T ao xs)) :
    ∃ own', RS K S (ρ.set i (.val (List T) xs)) σ H own' ∧ Ext own H own' H := by
  obtain ⟨⟨ads, h1, h2, h3⟩, h4, h5⟩ := r
  obtain ⟨a, vs, ads', q1, q2, q3, q4, q5, q6⟩ := Rs.freeze h1 e1 h2
  have hsub : ∀ b, b ∈ S ++ own.filter (fun b => decide (b ≠ a)) → b ∈ S ++ own := fun b hb => by
    rcases List.mem_append.mp hb with z | z
    · exact List.mem_append_left _ z
    · exact List.mem_append_right _ (List.mem_filter.mp z).1
  refine ⟨own.filter (fun b => decide (b ≠ a)), ⟨⟨ads', q6 _ (hide_mono hsub) ?_, q4, fun b hb => ?_⟩, fun b hb => h4 b (List.mem_filter.mp hb).1, fun b hb => h5 b (hsub b hb)⟩, fun b o e _ => e, fun b h => h, fun b hb => .inl (List.mem_filter.mp hb).1⟩
  · rw [hide_out]
    · exact q2
    · intro z
      rcases List.mem_append.mp z with z | z
      · exact h4 a (h3 a q1) z
      · exact of_decide_eq_true (List.mem_filter.mp z).2 rfl
  · exact List.mem_filter.mpr ⟨h3 b (q5 b hb).1, decide_eq_true (q5 b hb).2⟩

/-! ### ways out of statements -/
inductive Ctl (S B R : Type) where
  | nx (s : S)
  | rt (r : R)
  | bk (b : B)
  | ct (b : B)
/-- what stands at a return: the slots (kept arguments), the value -/
structure Rt (R : Type) where
  sl : R → List Slot
  vl : PySem.W.Frag → List Addr → List Addr → Hp → V → R → Prop
def WkO (ρ : List Slot) : Option (List Slot) → Prop
  | none => True
  | some r => Wk ρ r
section
variable {S₁ B R : Type}
def ErrS (K : PySem.W.Frag) (W : WX) (S own : List Addr) (H : Hp) (ρe : Option (List Slot)) (e : Ex) : Prop :=
  ∀ σ' H' own' c d, Ext own H own' H' → (∀ r, ρe = some r → RS K S r σ' H' own') → ExR K (hide (S ++ own') H') c d e → W c d σ' H'
def NxP (K : PySem.W.Frag) (S own : List Addr) (H : Hp) (k : St → Hp → Prop) (n : S₁ → List Slot) (s : S₁) : Prop := ∀ σ' H' own', Ext own H own' H' → RS K S (n s) σ' H' own' → k σ' H'
def RtP (K : PySem.W.Frag) (S own : List Addr) (H : Hp) (k : VK) (Z : Rt R) (r : R) : Prop := ∀ v σ' H' own', Ext own H own' H' → RS K S (Z.sl r) σ' H' own' → Z.vl K S own' H' v r → k v H'
def CtlP (K : PySem.W.Frag) (S own : List Addr) (H : Hp) (D : Ends) (n : S₁ → List Slot) (b : B → List Slot) (Z : Rt R) : Ctl S₁ B R → Prop
  | .nx s => NxP K S own H D.nx n s
  | .rt r => RtP K S own H D.rt Z r
  | .bk x => NxP K S own H D.bk b x
  | .ct x => NxP K S own H D.ct b x
abbrev SNp (X : Cx) (W : WX) (ρe : Option (List Slot)) (ρ : List Slot) (t : TS) (n : S₁ → List Slot) (m : Res S₁) : Prop :=
  ∀ (S own : List Addr) (σ : St) (H : Hp) (D : Ends), RS X.K S ρ σ H own → Post m (NxP X.K S own H D.nx n) (ErrS X.K W S own H ρe) → t D σ H
abbrev SRp (X : Cx) (W : WX) (ρe : Option (List Slot)) (ρ : List Slot) (t : TS) (Z : Rt R) (m : Res R) : Prop :=
  ∀ (S own : List Addr) (σ : St) (H : Hp) (D : Ends), RS X.K S ρ σ H own → Post m (RtP X.K S own H D.rt Z) (ErrS X.K W S own H ρe) → t D σ H
abbrev SCp (X : Cx) (W : WX) (ρe : Option (List Slot)) (ρ : List Slot) (t : TS) (n : S₁ → List Slot) (b : B → List Slot) (Z : Rt R) (m : Res (Ctl S₁ B R)) : Prop :=
  ∀ (S own : List Addr) (σ : St) (H : Hp) (D : Ends), RS X.K S ρ σ H own → Post m (CtlP X.K S own H D n b Z) (ErrS X.K W S own H ρe) → t D σ H
/-- one statement that falls through -/
structure N1 (X : Cx) (W : WX) (ρe : Option (List Slot)) (ρ : List Slot) (st : Stmt) (n : S₁ → List Slot) (m : Res S₁) : Prop where
  ex : ∃ t, PS X st t ∧ SNp X W ρe ρ t n m
structure C1 (X : Cx) (W : WX) (ρe : Option (List Slot)) (ρ : List Slot) (st : Stmt) (n : S₁ → List Slot) (b : B → List Slot) (Z : Rt R) (m : Res (Ctl S₁ B R)) : Prop where
  ex : ∃ t, PS X st t ∧ SCp X W ρe ρ t n b Z m
/-- blocks: that fall through, that return, of any way out -/
structure SN (X : Cx) (W : WX) (ρe : Option (List Slot)) (ρ : List Slot) (sts : List Stmt) (n : S₁ → List Slot) (m : Res S₁) : Prop where
  ex : ∃ t, PSs X sts t ∧ SNp X W ρe ρ t n m
structure SR (X : Cx) (W : WX) (ρe : Option (List Slot)) (ρ : List Slot) (sts : List Stmt) (Z : Rt R) (m : Res R) : Prop where
  ex : ∃ t, PSs X sts t ∧ SRp X W ρe ρ t Z m
structure SC (X : Cx) (W : WX) (ρe : Option (List Slot)) (ρ : List Slot) (sts : List Stmt) (n : S₁ → List Slot) (b : B → List Slot) (Z : Rt R) (m : Res (Ctl S₁ B R)) : Prop where
  ex : ∃ t, PSs X sts t ∧ SCp X W ρe ρ t n b Z m
end
section
variable {S₁ S₂ B R T A : Type} [Rp T] [Rp A] {X : Cx} {W : WX} {g : Bool} {ρe : Option (List Slot)} {ρ ρ' : List Slot} {st : Stmt} {rest sts : List Stmt} {n n1 : S₁ → List Slot} {n2 : S₂ → List Slot} {b : B → List Slot} {Z : Rt R} {e a : Expr} {pos : Pos} {lv : Nat}
  {S own own1 : List Addr} {σ : St} {H H1 : Hp} {K : PySem.W.Frag} {ex : Ex}
theorem ErrS.mono (h : ErrS K W S own H ρe ex) (x : Ext own H own1 H1) : ErrS K W S own1 H1 ρe ex := fun σ' H' own' c d x' r q => h σ' H' own' c d (x.trans x') r q
theorem ErrS.toX (h : ErrS X.K W S own H ρe ex) (rs : RS X.K S ρ σ H own) (w : WkO ρ ρe) : ErrX X W S own σ H ex := fun H' c d s q => h σ H' own c d (Ext.of_same s) (fun r e => by
  subst e
  exact (rs.mono s).wk w) q
theorem NxP.mono {k : St → Hp → Prop} {s : S₁} (h : NxP K S own H k n s) (x : Ext own H own1 H1) : NxP K S own1 H1 k n s := fun σ' H' own' x' r => h σ' H' own' (x.trans x') r
theorem RtP.mono {k : VK} {r : R} (h : RtP K S own H k Z r) (x : Ext own H own1 H1) : RtP K S own1 H1 k Z r := fun v σ' H' own' x' q1 q2 => h v σ' H' own' (x.trans x') q1 q2
theorem CtlP.mono {D : Ends} {z : Ctl S₁ B R} (h : CtlP K S own H D n b Z z) (x : Ext own H own1 H1) : CtlP K S own1 H1 D n b Z z := by
  cases z with
  | nx s => exact NxP.mono h x
  | rt r => exact RtP.mono h x
  | bk s => exact NxP.mono h x
  | ct s => exact NxP.mono h x
/-- an expression within a statement -/
theorem in_stmt {te : TE} {m : Res A} {f : A → Res R} {P : R → Prop} {R' : V → Hp → Prop} (q : EGp X W g ρ te m) (rs : RS X.K S ρ σ H own) (w : WkO ρ ρe) (h : Post (m.bind f) P (ErrS X.K W S own H ρe))
    (k : ∀ x v H', Same H H' → rp X.K (hide (reg g S own) H') v x → Post (f x) P (ErrS X.K W S own H ρe) → R' v H') : te σ H R' :=
  q S own σ H _ rs (h.bind.imp (fun x hx H1 v s1 r1 => k x v H1 s1 r1 hx) fun _ z => z.toX rs w)

/-! ### blocks -/
theorem b_nil {s : S₁} (w : Wk ρ (n s)) : SN X W ρe ρ [] n (.ok s) := ⟨_, pss_nil, fun S own σ H D rs h => h σ H own Ext.refl (rs.wk w)⟩
theorem b_cons {m1 : Res S₂} {m2 : S₂ → Res S₁} (h1 : N1 X W ρe ρ st n2 m1) (h2 : ∀ s, SN X W ρe (n2 s) rest n (m2 s)) : SN X W ρe ρ (st :: rest) n (m1.bind m2) := by
  obtain ⟨t1, p1, q1⟩ := h1.ex
  have dead : PSs X rest tNever := pss_never
  cases m1 with
  | bad => exact ⟨_, pss_cons p1 dead, fun S own σ H D rs h => h.elim⟩
  | err z => exact ⟨_, pss_cons p1 dead, fun S own σ H D rs h => q1 S own σ H _ rs h⟩
  | ok s =>
    obtain ⟨t2, p2, q2⟩ := (h2 s).ex
    exact ⟨_, pss_cons p1 p2, fun S own σ H D rs h => q1 S own σ H _ rs fun σ1 H1 own1 x1 r1 => q2 S own1 σ1 H1 D r1 (Post.imp h (fun _ z => z.mono x1) fun _ z => z.mono x1)⟩
theorem r_cons {m1 : Res S₂} {m2 : S₂ → Res R} (h1 : N1 X W ρe ρ st n2 m1) (h2 : ∀ s, SR X W ρe (n2 s) rest Z (m2 s)) : SR X W ρe ρ (st :: rest) Z (m1.bind m2) := by
  obtain ⟨t1, p1, q1⟩ := h1.ex
  have dead : PSs X rest tNever := pss_never
  cases m1 with
  | bad => exact ⟨_, pss_cons p1 dead, fun S own σ H D rs h => h.elim⟩
  | err z => exact ⟨_, pss_cons p1 dead, fun S own σ H D rs h => q1 S own σ H _ rs h⟩
  | ok s =>
    obtain ⟨t2, p2, q2⟩ := (h2 s).ex
    exact ⟨_, pss_cons p1 p2, fun S own σ H D rs h => q1 S own σ H _ rs fun σ1 H1 own1 x1 r1 => q2 S own1 σ1 H1 D r1 (Post.imp h (fun _ z => z.mono x1) fun _ z => z.mono x1)⟩
theorem c_cons {m1 : Res S₂} {m2 : S₂ → Res (Ctl S₁ B R)} (h1 : N1 X W ρe ρ st n2 m1) (h2 : ∀ s, SC X W ρe (n2 s) rest n b Z (m2 s)) : SC X W ρe ρ (st :: rest) n b Z (m1.bind m2) := by
  obtain ⟨t1, p1, q1⟩ := h1.ex
  have dead : PSs X rest tNever := pss_never
  cases m1 with
  | bad => exact ⟨_, pss_cons p1 dead, fun S own σ H D rs h => h.elim⟩
  | err z => exact ⟨_, pss_cons p1 dead, fun S own σ H D rs h => q1 S own σ H _ rs h⟩
  | ok s =>
    obtain ⟨t2, p2, q2⟩ := (h2 s).ex
    exact ⟨_, pss_cons p1 p2, fun S own σ H D rs h => q1 S own σ H _ rs fun σ1 H1 own1 x1 r1 => q2 S own1 σ1 H1 D r1 (Post.imp h (fun _ z => z.mono x1) fun _ z => z.mono x1)⟩
/-- a statement of any way out, then a block -/
def thenC (m : Res (Ctl S₂ B R)) (f : S₂ → Res (Ctl S₁ B R)) : Res (Ctl S₁ B R) := m.bind fun
  | .nx s => f s
  | .rt r => .ok (.rt r)
  | .bk x => .ok (.bk x)
  | .ct x => .ok (.ct x)
def thenR (m : Res (Ctl S₂ Empty R)) (f : S₂ → Res R) : Res R := m.bind fun
  | .nx s => f s
  | .rt r => .ok r
  | .bk x => nomatch x
  | .ct x => nomatch x
theorem cc_cons {m1 : Res (Ctl S₂ B R)} {m2 : S₂ → Res (Ctl S₁ B R)} (h1 : C1 X W ρe ρ st n2 b Z m1) (h2 : ∀ s, SC X W ρe (n2 s) rest n b Z (m2 s)) : SC X W ρe ρ (st :: rest) n b Z (thenC m1 m2) := by
  obtain ⟨t1, p1, q1⟩ := h1.ex
  have dead : PSs X rest tNever := pss_never
  cases m1 with
  | bad => exact ⟨_, pss_cons p1 dead, fun S own σ H D rs h => h.elim⟩
  | err z => exact ⟨_, pss_cons p1 dead, fun S own σ H D rs h => q1 S own σ H _ rs h⟩
  | ok z =>
    cases z with
    | nx s =>
      obtain ⟨t2, p2, q2⟩ := (h2 s).ex
      exact ⟨_, pss_cons p1 p2, fun S own σ H D rs h => q1 S own σ H _ rs fun σ1 H1 own1 x1 r1 => q2 S own1 σ1 H1 D r1 (Post.imp (show Post (m2 s) _ _ from h) (fun _ z => CtlP.mono z x1) fun _ z => z.mono x1)⟩
    | rt r => exact ⟨_, pss_cons p1 dead, fun S own σ H D rs h => q1 S own σ H _ rs h⟩
    | bk r => exact ⟨_, pss_cons p1 dead, fun S own σ H D rs h => q1 S own σ H _ rs h⟩
    | ct r => exact ⟨_, pss_cons p1 dead, fun S own σ H D rs h => q1 S own σ H _ rs h⟩
theorem rc_cons {b : Empty → List Slot} {m1 : Res (Ctl S₂ Empty R)} {m2 : S₂ → Res R} (h1 : C1 X W ρe ρ st n2 b Z m1) (h2 : ∀ s, SR X W ρe (n2 s) rest Z (m2 s)) : SR X W ρe ρ (st :: rest) Z (thenR m1 m2) := by
  obtain ⟨t1, p1, q1⟩ := h1.ex
  have dead : PSs X rest tNever := pss_never
  cases m1 with
  | bad => exact ⟨_, pss_cons p1 dead, fun S own σ H D rs h => h.elim⟩
  | err z => exact ⟨_, pss_cons p1 dead, fun S own σ H D rs h => q1 S own σ H _ rs h⟩
  | ok z =>
    cases z with
    | nx s =>
      obtain ⟨t2, p2, q2⟩ := (h2 s).ex
      exact ⟨_, pss_cons p1 p2, fun S own σ H D rs h => q1 S own σ H _ rs fun σ1 H1 own1 x1 r1 => q2 S own1 σ1 H1 D r1 (Post.imp (show Post (m2 s) _ _ from h) (fun _ z => z.mono x1) fun _ z => z.mono x1)⟩
    | rt r => exact ⟨_, pss_cons p1 dead, fun S own σ H D rs h => q1 S own σ H _ rs h⟩
    | bk r => exact nomatch r
    | ct r => exact nomatch r
theorem c_nil {s : S₁} (w : Wk ρ (n s)) : SC X W ρe ρ [] n b Z (.ok (.nx s)) := ⟨_, pss_nil, fun S own σ H D rs h => h σ H own Ext.refl (rs.wk w)⟩
theorem c_break {x : B} (w : Wk ρ (b x)) : SC X W ρe ρ (.Break pos :: rest) n b Z (.ok (.bk x)) := ⟨_, pss_cons ps_break pss_never, fun S own σ H D rs h => h σ H own Ext.refl (rs.wk w)⟩
theorem c_cont {x : B} (w : Wk ρ (b x)) : SC X W ρe ρ (.Continue pos :: rest) n b Z (.ok (.ct x)) := ⟨_, pss_cons ps_continue pss_never, fun S own σ H D rs h => h σ H own Ext.refl (rs.wk w)⟩
/-- a block that returns, as one of any way out -/
theorem SR.c {m : Res R} (h : SR X W ρe ρ sts Z m) : SC X W ρe ρ sts n b Z (m.bind fun r => .ok (.rt r)) := by
  obtain ⟨t, p, q⟩ := h.ex
  exact ⟨t, p, fun S own σ H D rs h => q S own σ H D rs (h.bind.imp (fun _ z => z) fun _ z => z)⟩
theorem SN.c {m : Res S₁} (h : SN X W ρe ρ sts n m) : SC X W ρe ρ sts n b Z (m.bind fun r => .ok (.nx r)) := by
  obtain ⟨t, p, q⟩ := h.ex
  exact ⟨t, p, fun S own σ H D rs h => q S own σ H D rs (h.bind.imp (fun _ z => z) fun _ z => z)⟩

/-! ### letting go ahead of a block -/
theorem b_free (i : Nat) {ao : Option Addr} {xs : List T} {m : Res S₁} (h : SN X W ρe ρ' sts n m) (e : ρ[i]? = some (.own T ao xs) := by rfl) (e' : ρ' = ρ.set i (.val (List T) xs) := by rfl) : SN X W ρe ρ sts n m := by
  obtain ⟨t, p, q⟩ := h.ex
  refine ⟨t, p, fun S own σ H D rs hP => ?_⟩
  obtain ⟨own', r, x⟩ := rs.freeze e
  subst e'
  exact q S own' σ H D r (Post.imp hP (fun _ z => z.mono x) fun _ z => z.mono x)
theorem r_free (i : Nat) {ao : Option Addr} {xs : List T} {m : Res R} (h : SR X W ρe ρ' sts Z m) (e : ρ[i]? = some (.own T ao xs) := by rfl) (e' : ρ' = ρ.set i (.val (List T) xs) := by rfl) : SR X W ρe ρ sts Z m := by
  obtain ⟨t, p, q⟩ := h.ex
  refine ⟨t, p, fun S own σ H D rs hP => ?_⟩
  obtain ⟨own', r, x⟩ := rs.freeze e
  subst e'
  exact q S own' σ H D r (Post.imp hP (fun _ z => z.mono x) fun _ z => z.mono x)
theorem c_free (i : Nat) {ao : Option Addr} {xs : List T} {m : Res (Ctl S₁ B R)} (h : SC X W ρe ρ' sts n b Z m) (e : ρ[i]? = some (.own T ao xs) := by rfl) (e' : ρ' = ρ.set i (.val (List T) xs) := by rfl) : SC X W ρe ρ sts n b Z m := by
  obtain ⟨t, p, q⟩ := h.ex
  refine ⟨t, p, fun S own σ H D rs hP => ?_⟩
  obtain ⟨own', r, x⟩ := rs.freeze e
  subst e'
  exact q S own' σ H D r (Post.imp hP (fun _ z => z.mono x) fun _ z => z.mono x)

/-! ### returns -/
/-- any value -/
def retD (T : Type) [Rp T] : Rt T := ⟨fun _ => [], fun K S own H v x => rp K (hide (S ++ own) H) v x⟩
/-- a new list -/
def retF (T : Type) [Rp T] : Rt (List T) := ⟨fun _ => [], fun K S own H v xs => ∃ a vs, v = .ref a ∧ a ∈ own ∧ H a = some (.lst vs) ∧ RpAll K (hide (S ++ own) H) vs xs⟩
theorem rs_nil (rs : RS K S ρ σ H own) : RS K S [] [] H own := ⟨⟨[], .nil, List.nodup_nil, fun _ z => nomatch z⟩, rs.out, rs.dom⟩
theorem r_ret {m : Res T} (h : EG X W true ρ e m) (w : WkO ρ ρe := by first | exact True.intro | (repeat (first | exact Wk.nil | refine Wk.s ?_ | refine Wk.n ?_))) : SR X W ρe ρ (.Return (some e) pos :: rest) (retD T) m := by
  obtain ⟨t, p, q⟩ := h.ex
  refine ⟨_, pss_cons (ps_ret p) pss_never, fun S own σ H D rs h => ?_⟩
  exact q S own σ H D.rt rs (h.imp (fun x hx H' v s r => hx v [] H' own (Ext.of_same s) (rs_nil (rs.mono s)) r) fun _ z => z.toX rs w)
theorem r_retF {m : Res (List T)} (h : FG X W ρ e m) (w : WkO ρ ρe := by first | exact True.intro | (repeat (first | exact Wk.nil | refine Wk.s ?_ | refine Wk.n ?_))) : SR X W ρe ρ (.Return (some e) pos :: rest) (retF T) m := by
  obtain ⟨t, p, q⟩ := h.ex
  refine ⟨_, pss_cons (ps_ret p) pss_never, fun S own σ H D rs h => ?_⟩
  refine q S own σ H D.rt rs (h.imp (fun x hx H' a vs s na e1 e2 => hx (.ref a) [] H' (a :: own) ⟨fun b o z _ => s b o z, fun b z => dom_same s z, fun b z => ?_⟩ ?_ ⟨a, vs, rfl, List.mem_cons_self, e1, ?_⟩) fun _ z => z.toX rs w)
  · rcases List.mem_cons.mp z with z | z
    · exact .inr (z ▸ na)
    · exact .inl z
  · refine ⟨⟨[], .nil, List.nodup_nil, fun _ z => nomatch z⟩, fun b hb => ?_, fun b hb => ?_⟩
    · rcases List.mem_cons.mp hb with z | z
      · exact z ▸ fun y => rs.dom a (List.mem_append_left _ y) na
      · exact rs.out b z
    · rcases List.mem_append.mp hb with z | z
      · exact dom_same s (rs.dom b (List.mem_append_left _ z))
      · rcases List.mem_cons.mp z with z | z
        · rw [z, e1]; intro y; cases y
        · exact dom_same s (rs.dom b (List.mem_append_right _ z))
  · refine RpAll.mono (hide_mono fun b hb => ?_) e2
    rcases List.mem_append.mp hb with z | z
    · exact List.mem_cons_of_mem _ (List.mem_append_left _ z)
    · rcases List.mem_cons.mp z with z | z
      · exact z ▸ List.mem_cons_self
      · exact List.mem_cons_of_mem _ (List.mem_append_right _ z)
/-- a kept list handed back as new -/
theorem r_retOwn (i : Nat) {x : Str} {ao : Option Addr} {xs : List T} {p2 : Pos} (hr : ρ[i]? = some (Slot.own T ao xs) := by rfl) (hN : X.N[i]? = some x := by rfl) (hv : Vis X.env.scope x := by first | exact Or.inl rfl | exact Or.inr (Or.inl rfl) | exact Or.inr (Or.inr rfl))
    (hd : (x == ("__debug__" : Str)) = false := by decide) (hcd : (x == ("__classdict__" : Str)) = false := by decide) : SR X W ρe ρ (.Return (some (.Name x p2)) pos :: rest) (retF T) (.ok xs) := by
  refine ⟨_, pss_cons (ps_ret (pe_var hN hv hd hcd)) pss_never, fun S own σ H D rs h => ?_⟩
  obtain ⟨ads, r, _, h3⟩ := rs.rs
  obtain ⟨a, vs, e, e1, e2, e3, _⟩ := r.own_at hr
  exact ⟨_, e, h (.ref a) [] H own Ext.refl (rs_nil rs) ⟨a, vs, rfl, h3 a e1, e2, e3⟩⟩
theorem SR.of_eq {m m' : Res R} (h : SR X W ρe ρ sts Z m) (z : m = m') : SR X W ρe ρ sts Z m' := z ▸ h

/-! ### simple statements -/
theorem n_set (i : Nat) {x : Str} {m : Res T} {p2 : Pos} {n3 : T → List Slot} (nd : X.N.Nodup) (h : EG X W true ρ e m) (hn : ∀ v, n3 v = ρ.set i (.val T v) := by intro _; rfl) (w : WkO ρ ρe := by first | exact True.intro | (repeat (first | exact Wk.nil | refine Wk.s ?_ | refine Wk.n ?_))) (hi : X.N[i]? = some x := by rfl) (hx : Loc X.env.scope x := by first | exact Or.inl rfl | exact Or.inr rfl)
    (hs : swapsWith e (some (.Name x p2)) pos.line X.env = pure false := by rfl) (hf : X.fn x = true ∨ X.env.scope.names.lookup x = some .local := by first | exact .inl rfl | exact .inr rfl | assumption) : N1 X W ρe ρ (.Assign [.Name x p2] e pos) n3 m := by
  obtain ⟨t, p, q⟩ := h.ex
  refine ⟨_, ps_set nd hi hx p hs hf, fun S own σ H D rs h => ?_⟩
  refine q S own σ H _ rs (h.imp (fun v hv H' u s r => hv _ H' own (Ext.of_same s) ?_) fun _ z => z.toX rs w)
  rw [hn]
  exact (rs.mono s).set r i
end
end Py

set_option Elab.async false
set_option linter.all false
set_option maxRecDepth 100000
set_option maxHeartbeats 1000000
/-! Py, part E: further statements, loops, comprehensions, calls and defs. -/
namespace Py
open PySem PySem.Spec L2
open Rp (rp)

/-- what a loop walks -/
structure WJ (K : PySem.W.Frag) (B : List Addr) (H0 : Hp) (J : It) {T : Type} [Rp T] (xs : List T) : Prop where
  goes : ∀ i H, i < xs.length → Same (hide B H0) H → J.go i H
  stops : ∀ H, Same (hide B H0) H → J.stop xs.length H
  yields : ∀ i H v H' x B2, xs[i]? = some x → Same (hide B H0) (hide B2 H) → (∀ b ∈ B2, H b ≠ none) → J.yld i H v H' → Same H H' ∧ rp K (hide B2 H') v x
abbrev IJp (X : Cx) (W : WX) (ρ : List Slot) (wi : TI) {T : Type} [Rp T] (m : Res (List T)) : Prop :=
  ∀ (S own : List Addr) (σ : St) (H : Hp) (R : It → Hp → Prop), RS X.K S ρ σ H own → Post m (fun xs => ∀ J H', Same H H' → WJ X.K (S ++ own) H' J xs → R J H') (ErrX X W S own σ H) → wi σ H R
structure IJ (X : Cx) (W : WX) (ρ : List Slot) (tg e : Expr) {T : Type} [Rp T] (m : Res (List T)) : Prop where
  ex : ∃ wi, PI X tg e wi ∧ IJp X W ρ wi m
abbrev GJp (X : Cx) (gt : TG) {T : Type} [Rp T] (u : List Slot → T → List Slot) (js : List Nat) : Prop :=
  ∀ (S own : List Addr) (ρ : List Slot) (σ : St) (H : Hp) (v : V) (x : T) (Q : St → Hp → Prop), RS X.K S ρ σ H own → rp X.K (hide (S ++ own) H) v x → (∀ σ', RS X.K S (u ρ x) σ' H own → (∀ vs : List Nat, (∀ i ∈ js, i ∈ vs) → wipe σ' vs = wipe σ vs) → Q σ' H) → gt v σ H Q
/-- a target: what it makes of the slots; the slots that it sets -/
structure GJ (X : Cx) (tg : Expr) {T : Type} [Rp T] (u : List Slot → T → List Slot) (js : List Nat) : Prop where
  ex : ∃ gt, PG X tg gt ∧ GJp X gt u js
theorem wipe_set {σ : St} {i : Nat} {o : Option V} : ∀ {vs : List Nat}, i ∈ vs → wipe (σ.set i o) vs = wipe σ vs
  | v :: vs, h => by
    show (wipe (σ.set i o) vs).set v none = (wipe σ vs).set v none
    by_cases hi : i ∈ vs
    · rw [wipe_set hi]
    · have hv : i = v := (List.mem_cons.mp h).resolve_right hi
      subst hv
      have aux : ∀ ws : List Nat, i ∉ ws → wipe (σ.set i o) ws = (wipe σ ws).set i o := by
        intro ws
        induction ws with
        | nil => intro _; rfl
        | cons w ws ih =>
          intro hn
          show (wipe (σ.set i o) ws).set w none = ((wipe σ ws).set w none).set i o
          rw [ih fun z => hn (List.mem_cons_of_mem _ z)]
          exact List.set_comm _ _ (fun z => hn (z ▸ List.mem_cons_self))
      rw [aux vs hi, List.set_set]

def forR {T S : Type} (f : S → T → Res S) : List T → S → Res S
  | [], s => .ok s
  | x :: r, s => (f s x).bind fun s' => forR f r s'
def forC {T S B R : Type} (f : S → T → Res (Ctl S S R)) : List T → S → Res (Ctl S B R)
  | [], s => .ok (.nx s)
  | x :: r, s => (f s x).bind fun
    | .nx s' => forC f r s'
    | .ct s' => forC f r s'
    | .bk s' => .ok (.nx s')
    | .rt z => .ok (.rt z)
def whileM {S : Type} (c : S → Res Bool) (f : S → Res S) : Nat → S → Res S
  | 0, _ => .bad
  | n + 1, s => (c s).bind fun b => if b then (f s).bind fun s' => whileM c f n s' else .ok s
def whileC {S B R : Type} (c : S → Res Bool) (f : S → Res (Ctl S S R)) : Nat → S → Res (Ctl S B R)
  | 0, _ => .bad
  | n + 1, s => (c s).bind fun b => if b then (f s).bind fun
      | .nx s' => whileC c f n s'
      | .ct s' => whileC c f n s'
      | .bk s' => .ok (.nx s')
      | .rt z => .ok (.rt z) else .ok (.nx s)
/-- a comprehension -/
def lcM {T U : Type} (t : T → Res Bool) (f : T → Res U) : List T → Res (List U)
  | [] => .ok []
  | x :: r => (t x).quiet.bind fun b => if b then (f x).quiet.bind fun y => (lcM t f r).bind fun ys => .ok (y :: ys) else lcM t f r

section
variable {S₁ S₂ B R T A U : Type} [Rp T] [Rp A] [Rp U] {X : Cx} {W : WX} {g : Bool} {ρe : Option (List Slot)} {ρ ρ' : List Slot} {st : Stmt} {rest sts : List Stmt} {n n1 : S₁ → List Slot} {n2 : S₂ → List Slot} {b : B → List Slot} {Z : Rt R} {e a tg : Expr} {pos : Pos} {lv : Nat}

/-! ### simple statements -/
theorem n_setF (i : Nat) {x : Str} {m : Res (List T)} {p2 : Pos} {n3 : List T → List Slot} (nd : X.N.Nodup) (h : FG X W ρ e m) (hn : ∀ v, n3 v = ρ.set i (.own T none v) := by intro _; rfl) (hl : i < ρ.length := by exact Nat.le_of_ble_eq_true rfl) (w : WkO ρ ρe := by first | exact True.intro | (repeat (first | exact Wk.nil | refine Wk.s ?_ | refine Wk.n ?_))) (hi : X.N[i]? = some x := by rfl) (hx : Loc X.env.scope x := by first | exact Or.inl rfl | exact Or.inr rfl)
    (hs : swapsWith e (some (.Name x p2)) pos.line X.env = pure false := by rfl) (hf : X.fn x = true ∨ X.env.scope.names.lookup x = some .local := by first | exact .inl rfl | exact .inr rfl | assumption) : N1 X W ρe ρ (.Assign [.Name x p2] e pos) n3 m := by
  obtain ⟨t, p, q⟩ := h.ex
  refine ⟨_, ps_set nd hi hx p hs hf, fun S own σ H D rs h => ?_⟩
  refine q S own σ H _ rs (h.imp (fun v hv H' a vs s na e1 e2 => hv _ H' (a :: own) ⟨fun b o z _ => s b o z, fun b z => dom_same s z, fun b z => ?_⟩ ?_) fun _ z => z.toX rs w)
  · rcases List.mem_cons.mp z with z | z
    · exact .inr (z ▸ na)
    · exact .inl z
  · rw [hn]
    exact rs.setOwn s na e1 e2 i hl
theorem RS.own_at {K : PySem.W.Frag} {S own : List Addr} {σ : St} {H : Hp} {i : Nat} {ao : Option Addr} {xs : List T} (rs : RS K S ρ σ H own) (hr : ρ[i]? = some (Slot.own T ao xs)) : ∃ a vs, σ[i]? = some (some (.ref a)) ∧ a ∈ own ∧ H a = some (.lst vs) ∧ RpAll K (hide (S ++ own) H) vs xs := by
  obtain ⟨ads, r, _, h3⟩ := rs.rs
  obtain ⟨a, vs, e, e1, e2, e3, _⟩ := r.own_at hr
  exact ⟨a, vs, e, h3 a e1, e2, e3⟩
def appM {α : Type} (xs : List α) (x : α) : Res (List α) := guardR (decide (xs.length < sizeLine)) (.ok (xs ++ [x]))
theorem n_app (i : Nat) {x : Str} {ao : Option Addr} {xs : List T} {m : Res T} {p1 p2 p3 : Pos} {n3 : List T → List Slot} (h : EG X W true ρ e m) (hr : ρ[i]? = some (Slot.own T ao xs) := by rfl) (hn : ∀ v, n3 v = ρ.set i (.own T ao v) := by intro _; rfl) (w : WkO ρ ρe := by first | exact True.intro | (repeat (first | exact Wk.nil | refine Wk.s ?_ | refine Wk.n ?_))) (hN : X.N[i]? = some x := by rfl)
    (hv : Vis X.env.scope x := by first | exact Or.inl rfl | exact Or.inr (Or.inl rfl) | exact Or.inr (Or.inr rfl)) (hd : (x == ("__debug__" : Str)) = false := by decide) (hcd : (x == ("__classdict__" : Str)) = false := by decide)
    (hbase : attributeBase (.Name x p1) "append" X.env (eval (.Name x p1) X.env) = eval (.Name x p1) X.env := by rfl) (hline : (p2.endLine == p3.line) = true := by rfl) (hst : starEach (e :: []) X.env = (false, eval e X.env) :: starEach [] X.env := by rfl)
    (hpl : (backTo p3 (starEach [] X.env)).any (·.1) = false := by rfl) (hs : swapsWith (.Call (.Attribute (.Name x p1) "append" p2) [e] [] p3) none pos.line X.env = pure false := by rfl)
    (hfew : ((backTo p3 (starEach (e :: []) X.env)).all (fun x => !x.1) && (backToKw p3 (keywordEach [] X.env)).all (fun x => x.1.isSome) && decide ((e :: []).length + ([] : List Keyword).length + (if ([] : List Keyword).isEmpty then 0 else 1) < 30)) = true := by rfl) :
    N1 X W ρe ρ (.Expr (.Call (.Attribute (.Name x p1) "append" p2) [e] [] p3) pos) n3 (m.bind fun v => appM xs v) := by
  obtain ⟨t, p, q⟩ := h.ex
  refine ⟨_, ps_expr (pe_bm PySem.F.plainAttrs_list PySem.F.slot_list_append PySem.F.type_list_append mt_append (pe_var hN hv hd hcd) (pa_cons p pa_nil hst) hbase hfew hline hst hpl) hs, fun S own σ H D rs hP => ?_⟩
  obtain ⟨a, vs, e1, e2, e3, e4⟩ := rs.own_at hr
  refine ⟨_, e1, .inl ⟨rfl, vs, .inl (.inl e3)⟩, ?_⟩
  refine in_stmt (R' := fun v H2 => rAppend (.ref a) [v] H2 fun _ H1 => D.nx σ H1) q rs w hP fun x v H' s r hx => ?_
  obtain ⟨h1, hx⟩ := hx.guard
  have r4 := (RpAll.mono (hide_same s) e4)
  refine ⟨a, vs, v, rfl, rfl, s _ _ e3, by rw [e4.length]; exact of_decide_eq_true h1, ?_⟩
  obtain ⟨w1, w2⟩ := (rs.mono s).write hr e1 (r4.append (.cons r .nil))
  exact hx σ _ own ((Ext.of_same s).trans w2) (by rw [hn]; exact w1)
def setM {α : Type} (xs : List α) (i : Int) (x : α) : Res (List α) := match ixN xs.length i with
  | some j => .ok (xs.set j x)
  | none => .bad
theorem n_setix (i : Nat) {x : Str} {ao : Option Addr} {xs : List T} {m : Res T} {mi : Res Int} {ie : Expr} {p1 p2 : Pos} {n3 : List T → List Slot} (h : EG X W true ρ e m) (hI : EG X W true ρ ie mi) (hr : ρ[i]? = some (Slot.own T ao xs) := by rfl) (hn : ∀ v, n3 v = ρ.set i (.own T ao v) := by intro _; rfl) (w : WkO ρ ρe := by first | exact True.intro | (repeat (first | exact Wk.nil | refine Wk.s ?_ | refine Wk.n ?_)))
    (hN : X.N[i]? = some x := by rfl) (hv : Vis X.env.scope x := by first | exact Or.inl rfl | exact Or.inr (Or.inl rfl) | exact Or.inr (Or.inr rfl)) (hd : (x == ("__debug__" : Str)) = false := by decide) (hcd : (x == ("__classdict__" : Str)) = false := by decide)
    (ha : ∀ v, assign (.Subscript (.Name x p1) ie p2) X.env v = (do
      let ov ← holding [v] (eval (.Name x p1) X.env)
      let iv ← holding [v, ov] (eval ie X.env)
      standAt p2
      holding [v, ov, iv] (setItem ov iv v)
      release [v, ov, iv] []) := by intro _; rfl)
    (hs : swapsWithSole [.Subscript (.Name x p1) ie p2] e pos.line X.env = pure false := by rfl) (hw : swappedStores [.Subscript (.Name x p1) ie p2] e X.env = pure none := by rfl)
    (h1 : (assignEach [.Subscript (.Name x p1) ie p2] X.env).map (·.2) = [assign (.Subscript (.Name x p1) ie p2) X.env] := by rfl) :
    N1 X W ρe ρ (.Assign [.Subscript (.Name x p1) ie p2] e pos) n3 (m.bind fun v => mi.bind fun k => setM xs k v) := by
  obtain ⟨t, p, q⟩ := h.ex
  obtain ⟨ti, pi, qi⟩ := hI.ex
  refine ⟨_, ps_asg p (pg_sub (pe_var hN hv hd hcd) pi set_list ha) hs hw h1, fun S own σ H D rs hP => ?_⟩
  obtain ⟨a, vs, e1, e2, e3, e4⟩ := rs.own_at hr
  refine in_stmt (f := fun v => mi.bind fun k => setM xs k v) (R' := fun v H2 => gSub (tVar i) ti rSetL v σ H2 D.nx) q rs w hP fun y v H' s r hx => ?_
  refine ⟨_, e1, ?_⟩
  refine in_stmt (f := fun k => setM xs k y) (R' := fun u H2 => rSetL (.ref a) u v H2 fun H3 => D.nx σ H3) qi (rs.mono s) w (Post.imp hx (fun _ z => z) fun _ z => z.mono (Ext.of_same s)) fun k u H2 s2 r2 hk => ?_
  cases r2
  unfold setM at hk
  have s3 := s.trans s2
  cases ej : ixN xs.length k with
  | none => rw [ej] at hk; exact hk.elim
  | some j =>
    rw [ej] at hk
    refine ⟨a, vs, k, j, rfl, rfl, s3 _ _ e3, by rw [e4.length]; exact ej, ?_⟩
    obtain ⟨w1, w2⟩ := ((rs.mono s).mono s2).write hr e1 ((RpAll.mono (hide_same s3) e4).set (Rp.mono (hide_same s2) r) j)
    exact hk σ _ own ((Ext.of_same s3).trans w2) (by rw [hn]; exact w1)
theorem n_expr {m : Res T} {g : Bool} (h : EG X W g ρ e m) (w : WkO ρ ρe := by first | exact True.intro | (repeat (first | exact Wk.nil | refine Wk.s ?_ | refine Wk.n ?_))) (hs : swapsWith e none pos.line X.env = pure false := by rfl) : N1 X W ρe ρ (.Expr e pos) (fun _ : T => ρ) m := by
  obtain ⟨t, p, q⟩ := h.ex
  refine ⟨_, ps_expr p hs, fun S own σ H D rs h => ?_⟩
  exact q S own σ H _ rs (h.imp (fun v hv H' u s r => hv σ H' own (Ext.of_same s) (rs.mono s)) fun _ z => z.toX rs w)
theorem n_pass : N1 X W ρe ρ (.Pass pos) (fun _ : Unit => ρ) (.ok ()) := ⟨_, ps_pass, fun S own σ H D rs h => h σ H own Ext.refl rs⟩
theorem n_doc {x j p2} : N1 X W ρe ρ (.Expr (.Constant (.str x) j p2) pos) (fun _ : Unit => ρ) (.ok ()) := ⟨_, ps_doc, fun S own σ H D rs h => h σ H own Ext.refl rs⟩
theorem n_aug (i : Nat) {x : Str} {op : Operator} {f : Int → Int → Int} {v0 : Int} {m : Res Int} {p2 : Pos} {n3 : Int → List Slot} (nd : X.N.Nodup) (ho : PIp X op (ipI f)) (h : EG X W true ρ e m) (hr : ρ[i]? = some (Slot.val Int v0) := by rfl) (hn : ∀ v, n3 v = ρ.set i (.val Int v) := by intro _; rfl) (w : WkO ρ ρe := by first | exact True.intro | (repeat (first | exact Wk.nil | refine Wk.s ?_ | refine Wk.n ?_))) (hi : X.N[i]? = some x := by rfl) (hx : Loc X.env.scope x := by first | exact Or.inl rfl | exact Or.inr rfl)
    (hf : X.fn x = true ∨ X.env.scope.names.lookup x = some .local := by first | exact .inl rfl | exact .inr rfl | assumption) : N1 X W ρe ρ (.AugAssign (.Name x p2) op e pos) n3 (m.bind fun y => .ok (f v0 y)) := by
  obtain ⟨t, p, q⟩ := h.ex
  refine ⟨_, ps_aug nd hi hx p ho hf, fun S own σ H D rs h => ?_⟩
  obtain ⟨ads, r, _, _⟩ := rs.rs
  obtain ⟨u, e1, e2⟩ := r.val_at hr
  cases e2
  refine ⟨_, e1, ?_⟩
  refine in_stmt (f := fun y => .ok (f v0 y)) (R' := fun y H1 => ipI f (.int v0) y H1 fun z H2 => D.nx (σ.set i (some z)) H2) q rs w h fun y v H' s r1 hx => ?_
  cases r1
  refine ⟨v0, y, rfl, rfl, hx _ H' own (Ext.of_same s) ?_⟩
  rw [hn]
  exact (rs.mono s).set rfl i

/-! ### if -/
theorem if_run {c : Expr} {tc : TT} {mc : Res Bool} {S own : List Addr} {σ : St} {H : Hp} {P : R → Prop} {f : Bool → Res R} {k : Bool → Hp → Prop} (qc : TJp X W ρ tc mc) (rs : RS X.K S ρ σ H own) (w : WkO ρ ρe) (h : Post (mc.bind f) P (ErrS X.K W S own H ρe))
    (hk : ∀ b H', Same H H' → Post (f b) P (ErrS X.K W S own H ρe) → k b H') : tc σ H k :=
  qc S own σ H _ rs (h.bind.imp (fun b hb H1 s => hk b H1 s hb) fun _ z => z.toX rs w)
theorem n_if {c : Expr} {sa sb : List Stmt} {mc : Res Bool} {ma mb : Res S₁} (hc : TJ X W ρ c mc) (h1 : SN X W ρe ρ sa n ma) (h2 : SN X W ρe ρ sb n mb) (w : WkO ρ ρe := by first | exact True.intro | (repeat (first | exact Wk.nil | refine Wk.s ?_ | refine Wk.n ?_))) : N1 X W ρe ρ (.If c sa sb pos) n (mc.bind fun k => if k then ma else mb) := by
  obtain ⟨tc, pc, qc⟩ := hc.ex
  obtain ⟨ta, pa, qa⟩ := h1.ex
  obtain ⟨tb, pb, qb⟩ := h2.ex
  refine ⟨_, ps_if pc pa pb, fun S own σ H D rs h => if_run (c := c) qc rs w h fun k H' s hk => ?_⟩
  cases k with
  | true => rw [if_pos rfl]; exact qa S own σ H' D (rs.mono s) (Post.imp (show Post ma _ _ from hk) (fun _ z => z.mono (Ext.of_same s)) fun _ z => z.mono (Ext.of_same s))
  | false => rw [if_neg Bool.false_ne_true]; exact qb S own σ H' D (rs.mono s) (Post.imp (show Post mb _ _ from hk) (fun _ z => z.mono (Ext.of_same s)) fun _ z => z.mono (Ext.of_same s))
theorem c_if {c : Expr} {sa sb : List Stmt} {mc : Res Bool} {ma mb : Res (Ctl S₁ B R)} (hc : TJ X W ρ c mc) (h1 : SC X W ρe ρ sa n b Z ma) (h2 : SC X W ρe ρ sb n b Z mb) (w : WkO ρ ρe := by first | exact True.intro | (repeat (first | exact Wk.nil | refine Wk.s ?_ | refine Wk.n ?_))) : C1 X W ρe ρ (.If c sa sb pos) n b Z (mc.bind fun k => if k then ma else mb) := by
  obtain ⟨tc, pc, qc⟩ := hc.ex
  obtain ⟨ta, pa, qa⟩ := h1.ex
  obtain ⟨tb, pb, qb⟩ := h2.ex
  refine ⟨_, ps_if pc pa pb, fun S own σ H D rs h => if_run (c := c) qc rs w h fun k H' s hk => ?_⟩
  cases k with
  | true => rw [if_pos rfl]; exact qa S own σ H' D (rs.mono s) (Post.imp (show Post ma _ _ from hk) (fun _ z => CtlP.mono z (Ext.of_same s)) fun _ z => z.mono (Ext.of_same s))
  | false => rw [if_neg Bool.false_ne_true]; exact qb S own σ H' D (rs.mono s) (Post.imp (show Post mb _ _ from hk) (fun _ z => CtlP.mono z (Ext.of_same s)) fun _ z => z.mono (Ext.of_same s))
/-- if that returns on its yes, then the rest -/
theorem r_if {c : Expr} {sa : List Stmt} {mc : Res Bool} {ma mb : Res R} (hc : TJ X W ρ c mc) (h1 : SR X W ρe ρ sa Z ma) (h2 : SR X W ρe ρ rest Z mb) (w : WkO ρ ρe := by first | exact True.intro | (repeat (first | exact Wk.nil | refine Wk.s ?_ | refine Wk.n ?_))) : SR X W ρe ρ (.If c sa [] pos :: rest) Z (mc.bind fun k => if k then ma else mb) := by
  obtain ⟨tc, pc, qc⟩ := hc.ex
  obtain ⟨ta, pa, qa⟩ := h1.ex
  obtain ⟨tb, pb, qb⟩ := h2.ex
  refine ⟨_, pss_cons (ps_if pc pa pss_nil) pb, fun S own σ H D rs h => if_run (c := c) qc rs w h fun k H' s hk => ?_⟩
  cases k with
  | true => rw [if_pos rfl]; exact qa S own σ H' _ (rs.mono s) (Post.imp (show Post ma _ _ from hk) (fun _ z => z.mono (Ext.of_same s)) fun _ z => z.mono (Ext.of_same s))
  | false => rw [if_neg Bool.false_ne_true]; exact qb S own σ H' D (rs.mono s) (Post.imp (show Post mb _ _ from hk) (fun _ z => z.mono (Ext.of_same s)) fun _ z => z.mono (Ext.of_same s))
/-- both return -/
theorem r_if2 {c : Expr} {sa sb : List Stmt} {mc : Res Bool} {ma mb : Res R} (hc : TJ X W ρ c mc) (h1 : SR X W ρe ρ sa Z ma) (h2 : SR X W ρe ρ sb Z mb) (w : WkO ρ ρe := by first | exact True.intro | (repeat (first | exact Wk.nil | refine Wk.s ?_ | refine Wk.n ?_))) : SR X W ρe ρ (.If c sa sb pos :: rest) Z (mc.bind fun k => if k then ma else mb) := by
  obtain ⟨tc, pc, qc⟩ := hc.ex
  obtain ⟨ta, pa, qa⟩ := h1.ex
  obtain ⟨tb, pb, qb⟩ := h2.ex
  refine ⟨_, pss_cons (ps_if pc pa pb) pss_never, fun S own σ H D rs h => if_run (c := c) qc rs w h fun k H' s hk => ?_⟩
  cases k with
  | true => rw [if_pos rfl]; exact qa S own σ H' _ (rs.mono s) (Post.imp (show Post ma _ _ from hk) (fun _ z => z.mono (Ext.of_same s)) fun _ z => z.mono (Ext.of_same s))
  | false => rw [if_neg Bool.false_ne_true]; exact qb S own σ H' _ (rs.mono s) (Post.imp (show Post mb _ _ from hk) (fun _ z => z.mono (Ext.of_same s)) fun _ z => z.mono (Ext.of_same s))
/-! ### targets -/
theorem g_name (i : Nat) {x : Str} (nd : X.N.Nodup) (hi : X.N[i]? = some x := by rfl) (hx : Loc X.env.scope x := by first | exact Or.inl rfl | exact Or.inr rfl) (hf : X.fn x = true ∨ X.env.scope.names.lookup x = some .local := by first | exact .inl rfl | exact .inr rfl | assumption) : GJ X (.Name x pos) (fun ρ (v : T) => ρ.set i (.val T v)) [i] :=
  ⟨_, pg_name nd hi hx hf, fun S own ρ σ H v x Q rs r h => h _ (rs.set r i) fun vs hv => wipe_set (hv i List.mem_cons_self)⟩
theorem g_pair {e1 e2 : Expr} {k} {u1 : List Slot → T → List Slot} {u2 : List Slot → A → List Slot} {j1 j2 : List Nat} (hc : X.calm = true) (h1 : GJ X e1 u1 j1) (h2 : GJ X e2 u2 j2)
    (hn : (assignEach [e1, e2] X.env).length = 2 := by rfl) (hst : (assignEach [e1, e2] X.env).findIdx? (·.1) = none := by rfl) (hs1 : (assignEach (e1 :: [e2]) X.env).map (·.2) = assign e1 X.env :: (assignEach [e2] X.env).map (·.2) := by rfl) (hs2 : (assignEach (e2 :: []) X.env).map (·.2) = assign e2 X.env :: (assignEach [] X.env).map (·.2) := by rfl) :
    GJ X (.Tuple [e1, e2] k pos) (fun ρ (p : T × A) => u2 (u1 ρ p.1) p.2) (j1 ++ j2) := by
  obtain ⟨g1, p1, q1⟩ := h1.ex
  obtain ⟨g2, p2, q2⟩ := h2.ex
  refine ⟨_, pg_tup hc (pgs_cons p1 (pgs_cons p2 pgs_nil hs2) hs1) hn hst, fun S own ρ σ H v x Q rs r h => ?_⟩
  obtain ⟨p, vs, rfl, e1, r2⟩ := r
  obtain ⟨x1, x2⟩ := x
  cases r2 with
  | cons ra r2 =>
    cases r2 with
    | cons rb r3 =>
      cases r3
      exact ⟨p, _, rfl, SqT.same hide_sub e1, rfl, _, _, rfl, q1 S own ρ σ H _ x1 _ rs ra fun σ1 rs1 t1 => ⟨_, _, rfl, q2 S own _ σ1 H _ x2 _ rs1 rb fun σ2 rs2 t2 => ⟨rfl, h σ2 rs2 fun vs hv => (t2 vs fun i hi => hv i (List.mem_append_right _ hi)).trans (t1 vs fun i hi => hv i (List.mem_append_left _ hi))⟩⟩⟩
theorem g_three {B : Type} [Rp B] {e1 e2 e3 : Expr} {k} {u1 : List Slot → T → List Slot} {u2 : List Slot → A → List Slot} {u3 : List Slot → B → List Slot} {j1 j2 j3 : List Nat} (hc : X.calm = true) (h1 : GJ X e1 u1 j1) (h2 : GJ X e2 u2 j2) (h3 : GJ X e3 u3 j3)
    (hn : (assignEach [e1, e2, e3] X.env).length = 3 := by rfl) (hst : (assignEach [e1, e2, e3] X.env).findIdx? (·.1) = none := by rfl) (hs1 : (assignEach (e1 :: [e2, e3]) X.env).map (·.2) = assign e1 X.env :: (assignEach [e2, e3] X.env).map (·.2) := by rfl)
    (hs2 : (assignEach (e2 :: [e3]) X.env).map (·.2) = assign e2 X.env :: (assignEach [e3] X.env).map (·.2) := by rfl) (hs3 : (assignEach (e3 :: []) X.env).map (·.2) = assign e3 X.env :: (assignEach [] X.env).map (·.2) := by rfl) :
    GJ X (.Tuple [e1, e2, e3] k pos) (fun ρ (p : T3 T A B) => u3 (u2 (u1 ρ p.a) p.b) p.c) (j1 ++ (j2 ++ j3)) := by
  obtain ⟨g1, p1, q1⟩ := h1.ex
  obtain ⟨g2, p2, q2⟩ := h2.ex
  obtain ⟨g3, p3, q3⟩ := h3.ex
  refine ⟨_, pg_tup hc (pgs_cons p1 (pgs_cons p2 (pgs_cons p3 pgs_nil hs3) hs2) hs1) hn hst, fun S own ρ σ H v x Q rs r h => ?_⟩
  obtain ⟨p, vs, rfl, e1, r2⟩ := r
  obtain ⟨x1, x2, x3⟩ := x
  cases r2 with
  | cons ra r2 =>
    cases r2 with
    | cons rb r3 =>
      cases r3 with
      | cons rc r4 =>
        cases r4
        exact ⟨p, _, rfl, SqT.same hide_sub e1, rfl, _, _, rfl, q1 S own ρ σ H _ x1 _ rs ra fun σ1 rs1 t1 => ⟨_, _, rfl, q2 S own _ σ1 H _ x2 _ rs1 rb fun σ2 rs2 t2 => ⟨_, _, rfl, q3 S own _ σ2 H _ x3 _ rs2 rc fun σ3 rs3 t3 => ⟨rfl, h σ3 rs3 fun vs hv => ((t3 vs fun i hi => hv i (List.mem_append_right _ (List.mem_append_right _ hi))).trans (t2 vs fun i hi => hv i (List.mem_append_right _ (List.mem_append_left _ hi)))).trans (t1 vs fun i hi => hv i (List.mem_append_left _ hi))⟩⟩⟩⟩
/-- a, b = e -/
theorem n_unp {m : Res T} {u : List Slot → T → List Slot} {js : List Nat} {n3 : T → List Slot} (h : EG X W true ρ e m) (hg : GJ X tg u js) (hn : ∀ v, n3 v = u ρ v := by intro _; rfl) (w : WkO ρ ρe := by first | exact True.intro | (repeat (first | exact Wk.nil | refine Wk.s ?_ | refine Wk.n ?_)))
    (hs : swapsWithSole [tg] e pos.line X.env = pure false := by rfl) (hw : swappedStores [tg] e X.env = pure none := by rfl) (h1 : (assignEach [tg] X.env).map (·.2) = [assign tg X.env] := by rfl) : N1 X W ρe ρ (.Assign [tg] e pos) n3 m := by
  obtain ⟨t, p, q⟩ := h.ex
  obtain ⟨gt, pg, qg⟩ := hg.ex
  refine ⟨_, ps_asg p pg hs hw h1, fun S own σ H D rs h => ?_⟩
  refine q S own σ H _ rs (h.imp (fun v hv H' w' s r => qg S own ρ σ H' w' v _ (rs.mono s) r fun σ' rs' _ => hv σ' H' own (Ext.of_same s) ?_) fun _ z => z.toX rs w)
  rw [hn]
  exact rs'
/-- a, b = x, y (locals) -/
theorem n_par (i j : Nat) {x y : Str} {a b : Expr} {px py pt : Pos} {kt k2 pt2} {m1 : Res T} {m2 : Res A} {n3 : T × A → List Slot} (hc : X.calm = true) (nd : X.N.Nodup) (ha : EG X W true ρ a m1) (hb : EG X W true ρ b m2) (hn : ∀ v, n3 v = (ρ.set i (.val T v.1)).set j (.val A v.2) := by intro _; rfl) (w : WkO ρ ρe := by first | exact True.intro | (repeat (first | exact Wk.nil | refine Wk.s ?_ | refine Wk.n ?_)))
    (hi : X.N[i]? = some x := by rfl) (hj : X.N[j]? = some y := by rfl) (hij : i ≠ j := by decide) (hx : X.env.scope.names.lookup x = some .local := by rfl) (hy : X.env.scope.names.lookup y = some .local := by rfl)
    (hw : swappedStores [.Tuple [.Name x px, .Name y py] kt pt] (.Tuple [a, b] k2 pt2) X.env = pure (some [x, y]) := by rfl) (hs : swapsWithSole [.Tuple [.Name x px, .Name y py] kt pt] (.Tuple [a, b] k2 pt2) pos.line X.env = pure false := by rfl)
    (he : starEach [a, b] X.env = (false, eval a X.env) :: starEach [b] X.env := by rfl) (he2 : starEach [b] X.env = (false, eval b X.env) :: starEach [] X.env := by rfl) :
    N1 X W ρe ρ (.Assign [.Tuple [.Name x px, .Name y py] kt pt] (.Tuple [a, b] k2 pt2) pos) n3 (m1.bind fun u => m2.bind fun v => .ok (u, v)) := by
  obtain ⟨t1, p1, q1⟩ := ha.ex
  obtain ⟨t2, p2, q2⟩ := hb.ex
  refine ⟨_, ps_par hc nd hi hj hij hx hy (pa_cons p1 (pa_cons p2 pa_nil he2) he) hw hs, fun S own σ H D rs h => ?_⟩
  refine in_stmt (f := fun u => m2.bind fun v => .ok (u, v)) (R' := fun v H1 => t2 σ H1 fun u H2 => ∃ v' w', [v, u] = [v', w'] ∧ D.nx ((σ.set i (some v')).set j (some w')) H2) q1 rs w h fun u v H' s r hx => ?_
  refine in_stmt (f := fun v => .ok (u, v)) (R' := fun w1 H2 => ∃ v' w', [v, w1] = [v', w'] ∧ D.nx ((σ.set i (some v')).set j (some w')) H2) q2 (rs.mono s) w (Post.imp hx (fun _ z => z) fun _ z => z.mono (Ext.of_same s)) fun v2 w2 H2 s2 r2 hk => ?_
  refine ⟨v, w2, rfl, hk _ H2 own (Ext.of_same (s.trans s2)) ?_⟩
  rw [hn]
  exact (((rs.mono s).mono s2).set (Rp.mono (hide_same s2) r) i).set r2 j

/-! ### what is walked -/
theorem i_list {m : Res (List T)} (h : EG X W true ρ e m) : IJ X W ρ tg e m := by
  obtain ⟨t, p, q⟩ := h.ex
  refine ⟨_, pi_list p, fun S own σ H R rs hp => q S own σ H _ rs (hp.imp (fun xs hx H' v s r => ?_) fun _ z => z)⟩
  obtain ⟨a, vs, rfl, e1, e2⟩ := r
  have there : ∀ H2, Same (hide (S ++ own) H') H2 → SqL X.K H2 a vs := fun H2 s2 => .inl (.inl (s2 _ _ e1))
  refine ⟨a, rfl, ⟨vs, .inl (.inl (hide_sub _ _ e1))⟩, hx _ H' s ⟨fun i H2 hi s2 => ?_, fun H2 s2 => ⟨vs, there H2 s2, by rw [e2.length]; exact Nat.le_refl _⟩, fun i H2 v H3 x B2 ei s2 hd hy => ?_⟩⟩
  · have h2 : i < vs.length := by rw [e2.length]; exact hi
    exact ⟨vs, vs[i], there H2 s2, List.getElem?_eq_getElem h2⟩
  · obtain ⟨rfl, f⟩ := hy
    obtain ⟨v', e3, r3⟩ := e2.get ei
    have e4 := f vs (there _ (s2.trans hide_sub))
    rw [e3] at e4
    cases e4
    exact ⟨Same.refl _, Rp.mono s2 r3⟩
theorem i_tup {m : Res (Tup T)} (h : EG X W true ρ e m) : IJ X W ρ tg e (m.bind fun x => .ok x.l) := by
  obtain ⟨t, p, q⟩ := h.ex
  refine ⟨_, pi_tup p, fun S own σ H R rs hp => q S own σ H _ rs (hp.bind.imp (fun xs hx H' v s r => ?_) fun _ z => z)⟩
  obtain ⟨a, vs, rfl, e1, e2⟩ := r
  refine ⟨a, rfl, ⟨vs, SqT.same hide_sub e1⟩, hx _ H' s ⟨fun i H2 hi s2 => ?_, fun H2 s2 => ⟨vs, SqT.same s2 e1, by rw [e2.length]; exact Nat.le_refl _⟩, fun i H2 v H3 x B2 ei s2 hd hy => ?_⟩⟩
  · have h2 : i < vs.length := by rw [e2.length]; exact hi
    exact ⟨vs, vs[i], SqT.same s2 e1, List.getElem?_eq_getElem h2⟩
  · obtain ⟨rfl, f⟩ := hy
    obtain ⟨v', e3, r3⟩ := e2.get ei
    have e4 := f vs (SqT.same (s2.trans hide_sub) e1)
    rw [e3] at e4
    cases e4
    exact ⟨Same.refl _, Rp.mono s2 r3⟩
def inRange (j : Int) : Bool := decide (-(2 ^ 62) ≤ j) && decide (j < 2 ^ 62)
theorem inRange_ok {j : Int} (h : inRange j = true) : -(2 ^ 62) ≤ j ∧ j < 2 ^ 62 := by
  unfold inRange at h
  simp only [Bool.and_eq_true, decide_eq_true_eq] at h
  exact h
/-- range(lo, hi) -/
def rng (lo hi : Int) : List Int := (List.range (hi - lo).toNat).map fun i : Nat => lo + (i : Int)
theorem rng_length (lo hi : Int) : (rng lo hi).length = (hi - lo).toNat := by unfold rng; rw [List.length_map, List.length_range]
theorem rng_get {lo hi x : Int} {i : Nat} (h : (rng lo hi)[i]? = some x) : x = lo + (i : Int) := by
  unfold rng at h
  rw [List.getElem?_map] at h
  cases e : (List.range (hi - lo).toNat)[i]? with
  | none => rw [e] at h; cases h
  | some k =>
    rw [e] at h
    have : k = i := by
      rw [List.getElem?_eq_some_iff] at e
      obtain ⟨h1, h2⟩ := e
      rw [List.getElem_range] at h2
      exact h2.symm
    subst this
    cases h
    rfl
theorem wj_range {K : PySem.W.Frag} {B : List Addr} {H0 : Hp} {lo hi : Int} : WJ K B H0 (Itr lo (hi - lo).toNat) (rng lo hi) := by
  refine ⟨fun i H hi s => ?_, fun H s => ?_, fun i H v H' x B2 ei s hd hy => ?_⟩
  · show i < _
    rw [rng_length] at hi
    exact hi
  · show _ ≤ (rng lo hi).length
    rw [rng_length]
    exact Nat.le_refl _
  · obtain ⟨rfl, rfl⟩ := hy
    exact ⟨Same.refl _, by rw [rng_get ei]; rfl⟩
theorem i_range1 {m : Res Int} {p : Pos} (h : EG X W true ρ a m) (hm : X.mg "range" = none) (hg : Gl X "range" := by rfl) (hs : starEach [a] X.env = [(false, eval a X.env)] := by rfl) (he : starEach (a :: []) X.env = (false, eval a X.env) :: starEach [] X.env := by rfl) :
    IJ X W ρ tg (.Call (.Name "range" p) [a] [] pos) (m.bind fun j => guardR (inRange j) (.ok (rng 0 j))) := by
  obtain ⟨t, p, q⟩ := h.ex
  refine ⟨_, pi_range1 hg hm (pa_cons p pa_nil he) hs, fun S own σ H R rs hp => q S own σ H _ rs (hp.bind.imp (fun j hj H' v s r => ?_) fun _ z => z)⟩
  cases r
  obtain ⟨h1, hj⟩ := hj.guard
  have h2 := inRange_ok h1
  have w := wj_range (K := X.K) (B := S ++ own) (H0 := H') (lo := 0) (hi := j)
  rw [Int.sub_zero] at w
  exact ⟨j, rfl, h2.1, h2.2, hj _ H' s w⟩
theorem i_range2 {c : Expr} {m : Res Int} {mc : Res Int} {p : Pos} (h : EG X W true ρ a m) (h2 : EG X W true ρ c mc) (hm : X.mg "range" = none) (hg : Gl X "range" := by rfl) (hs : starEach [a, c] X.env = [(false, eval a X.env), (false, eval c X.env)] := by rfl) (hs2 : starEach [c] X.env = [(false, eval c X.env)] := by rfl)
    (he : starEach (a :: [c]) X.env = (false, eval a X.env) :: starEach [c] X.env := by rfl) (he2 : starEach (c :: []) X.env = (false, eval c X.env) :: starEach [] X.env := by rfl) :
    IJ X W ρ tg (.Call (.Name "range" p) [a, c] [] pos) (m.bind fun i => mc.bind fun j => guardR (inRange i && inRange j) (.ok (rng i j))) := by
  obtain ⟨t, p, q⟩ := h.ex
  obtain ⟨tc, pc, qc⟩ := h2.ex
  refine ⟨_, pi_range2 hg hm (pa_cons p (pa_cons pc pa_nil he2) he) hs hs2, fun S own σ H R rs hp => q S own σ H _ rs (hp.bind.imp (fun i hi H1 v s r => qc S own σ H1 _ (rs.mono s) (hi.bind.imp (fun j hj H' u s2 r2 => ?_) fun _ z => z.mono s)) fun _ z => z)⟩
  cases r
  cases r2
  obtain ⟨h1, hj⟩ := hj.guard
  rw [Bool.and_eq_true] at h1
  have h3 := inRange_ok h1.1
  have h4 := inRange_ok h1.2
  exact ⟨i, j, rfl, ⟨h3.1, h3.2, h4.1, h4.2⟩, hj _ H' (s.trans s2) wj_range⟩
def enumL {α : Type} (xs : List α) : List (Int × α) := (List.range xs.length).zipWith (fun (i : Nat) x => ((i : Int), x)) xs
theorem enumL_length {α : Type} (xs : List α) : (enumL xs).length = xs.length := by unfold enumL; simp
theorem enumL_get {α : Type} {xs : List α} {i : Nat} {p : Int × α} (h : (enumL xs)[i]? = some p) : p.1 = (i : Int) ∧ xs[i]? = some p.2 := by
  unfold enumL at h
  rw [List.getElem?_zipWith] at h
  cases e : xs[i]? with
  | none => rw [e] at h; cases hh : (List.range xs.length)[i]? <;> rw [hh] at h <;> cases h
  | some x =>
    have hi : i < xs.length := (List.getElem?_eq_some_iff.mp e).1
    have e2 : (List.range xs.length)[i]? = some i := by simp [hi]
    rw [e, e2] at h
    cases h
    exact ⟨rfl, rfl⟩
theorem pair_new {K : PySem.W.Frag} {B2 : List Addr} {H : Hp} {Tt : Addr} {x y : V} {q : T × A} (hT : H Tt = none) (hd : ∀ b ∈ B2, H b ≠ none) (h1 : rp K (hide B2 H) x q.1) (h2 : rp K (hide B2 H) y q.2) :
    Same H (upd H Tt (.tup [x, y])) ∧ rp K (hide B2 (upd H Tt (.tup [x, y]))) (.ref Tt) q := by
  have s := same_upd (o := HO.tup [x, y]) hT
  refine ⟨s, Tt, [x, y], rfl, .inl (.inl ?_), .cons (Rp.mono (hide_same s) h1) (.cons (Rp.mono (hide_same s) h2) .nil)⟩
  rw [hide_out fun z => hd Tt z hT, upd_same]
theorem i_enum {m : Res (List T)} {p : Pos} {elts : List Expr} {kk : Nat} {tpos : Pos} (h : EG X W true ρ a m) (hm : X.mg "enumerate" = none) (hg : Gl X "enumerate" := by rfl) (hs : starEach [a] X.env = [(false, eval a X.env)] := by rfl) (he : starEach (a :: []) X.env = (false, eval a X.env) :: starEach [] X.env := by rfl) :
    IJ X W ρ (.Tuple elts kk tpos) (.Call (.Name "enumerate" p) [a] [] pos) (m.bind fun xs => .ok (enumL xs)) := by
  obtain ⟨t, p, q⟩ := h.ex
  refine ⟨_, pi_enum hg hm (pa_cons p pa_nil he) hs, fun S own σ H R rs hp => q S own σ H _ rs (hp.bind.imp (fun xs hx H' v s r => ?_) fun _ z => z)⟩
  obtain ⟨a, vs, rfl, e1, e2⟩ := r
  have there : ∀ H2, Same (hide (S ++ own) H') H2 → SqL X.K H2 a vs := fun H2 s2 => .inl (.inl (s2 _ _ e1))
  have wl := walk_enum (K := X.K) (a := a) (xs := vs)
  refine ⟨a, vs, rfl, .inl (.inl (hide_sub _ _ e1)), hx _ H' s ⟨fun i H2 hi s2 => wl.goes i H2 (by rw [e2.length, ← enumL_length]; exact hi) (there H2 s2), fun H2 s2 => ?_, fun i H2 v H3 x B2 ei s2 hd hy => ?_⟩⟩
  · have z : (enumL xs).length = vs.length := by rw [enumL_length, e2.length]
    rw [z]
    exact wl.stops H2 (there H2 s2)
  · obtain ⟨g1, g2⟩ := enumL_get ei
    have hi : i < vs.length := by rw [e2.length]; exact (List.getElem?_eq_some_iff.mp g2).1
    obtain ⟨Tt, x1, y1, rfl, hT, rfl, f1, f2⟩ := wl.yields i H2 v H3 hi (there _ (s2.trans hide_sub)) hy
    obtain ⟨v', e3, r3⟩ := e2.get g2
    have f2 : vs[i]? = some y1 := f2
    rw [e3] at f2
    cases f1
    cases f2
    exact pair_new hT hd (by show _ = V.int _; rw [g1]) (Rp.mono s2 r3)
theorem i_zip {c : Expr} {m : Res (List T)} {mc : Res (List A)} {p : Pos} {elts : List Expr} {kk : Nat} {tpos : Pos} (h : EG X W true ρ a m) (h2 : EG X W true ρ c mc) (hm : X.mg "zip" = none) (hg : Gl X "zip" := by rfl)
    (he : starEach (a :: [c]) X.env = (false, eval a X.env) :: starEach [c] X.env := by rfl) (he2 : starEach (c :: []) X.env = (false, eval c X.env) :: starEach [] X.env := by rfl) (hpl : (backTo pos (starEach [c] X.env)).any (·.1) = false := by rfl) :
    IJ X W ρ (.Tuple elts kk tpos) (.Call (.Name "zip" p) [a, c] [] pos) (m.bind fun xs => mc.bind fun ys => .ok (xs.zip ys)) := by
  obtain ⟨t, p, q⟩ := h.ex
  obtain ⟨tc, pc, qc⟩ := h2.ex
  refine ⟨_, pi_zip hg hm (pa_cons p (pa_cons pc pa_nil he2) he) he hpl, fun S own σ H R rs hp => q S own σ H _ rs (hp.bind.imp (fun xs hx H1 v s1 r => qc S own σ H1 _ (rs.mono s1) (hx.bind.imp (fun ys hy H' u s2 r2 => ?_) fun _ z => z.mono s1)) fun _ z => z)⟩
  obtain ⟨a, vs, rfl, e1, e2⟩ := r
  obtain ⟨b, us, rfl, e3, e4⟩ := r2
  have e1 := hide_same s2 _ _ e1
  have e2 := RpAll.mono (hide_same s2) e2
  have s := s1.trans s2
  have there : ∀ H2, Same (hide (S ++ own) H') H2 → SqL X.K H2 a vs ∧ SqL X.K H2 b us := fun H2 s2 => ⟨.inl (.inl (s2 _ _ e1)), .inl (.inl (s2 _ _ e3))⟩
  have wl := walk_zip (K := X.K) (a := a) (b := b) (xs := vs) (ys := us) rfl
  have hlen : (xs.zip ys).length = min vs.length us.length := by rw [List.length_zip, e2.length, e4.length]
  refine ⟨a, b, vs, us, rfl, .inl (.inl (hide_sub _ _ e1)), .inl (.inl (hide_sub _ _ e3)), hy _ H' s ⟨fun i H2 hi s2 => wl.goes i H2 (by rw [← hlen]; exact hi) (there H2 s2), fun H2 s2 => ?_, fun i H2 v H3 x B2 ei s2 hd hyy => ?_⟩⟩
  · rw [hlen]
    exact wl.stops H2 (there H2 s2)
  · have hi : i < min vs.length us.length := by rw [← hlen]; exact (List.getElem?_eq_some_iff.mp ei).1
    obtain ⟨Tt, x1, y1, rfl, hT, rfl, f1, f2⟩ := wl.yields i H2 v H3 hi (there _ (s2.trans hide_sub)) hyy
    rw [List.getElem?_zip_eq_some] at ei
    obtain ⟨v', e5, r5⟩ := e2.get ei.1
    obtain ⟨u', e6, r6⟩ := e4.get ei.2
    have f1 : vs[i]? = some x1 := f1
    have f2 : us[i]? = some y1 := f2
    rw [e5] at f1
    rw [e6] at f2
    cases f1
    cases f2
    exact pair_new hT hd (Rp.mono s2 r5) (Rp.mono s2 r6)
def signs (z : Str) : List Str := z.cps.toList.map fun c => ⟨#[c]⟩
theorem i_str {m : Res Str} (h : EG X W true ρ e m) : IJ X W ρ tg e (m.bind fun z => .ok (signs z)) := by
  obtain ⟨t, p, q⟩ := h.ex
  refine ⟨_, pi_str p, fun S own σ H R rs hp => q S own σ H _ rs (hp.bind.imp (fun z hx H' v s r => ?_) fun _ z => z)⟩
  cases r
  have hl : (signs z).length = z.cps.size := by unfold signs; rw [List.length_map, Array.length_toList]
  refine ⟨z, rfl, hx _ H' s ⟨fun i H2 hi _ => ?_, fun H2 _ => ?_, fun i H2 v H3 x B2 ei _ _ hy => ?_⟩⟩
  · show i < z.cps.size
    rw [← hl]; exact hi
  · show z.cps.size ≤ _
    rw [hl]; exact Nat.le_refl _
  · obtain ⟨rfl, c, e1, rfl⟩ := hy
    refine ⟨Same.refl _, ?_⟩
    unfold signs at ei
    rw [List.getElem?_map, Array.getElem?_toList, e1] at ei
    cases ei
    rfl
theorem IJ.of_eq {m m' : Res (List T)} (h : IJ X W ρ tg e m) (z : m = m') : IJ X W ρ tg e m' := z ▸ h

/-! ### for -/
theorem n_for {body : List Stmt} {m : Res (List T)} {u : List Slot → T → List Slot} {ρl : S₁ → List Slot} {f : S₁ → T → Res S₁} {s0 : S₁} {js : List Nat} (C : CtxOk X W lv) (hi : IJ X W ρ tg e m) (hg : GJ X tg u js) (h0 : Wk ρ (ρl s0)) (hb : ∀ s x, SN X W ρe (u (ρl s) x) body ρl (f s x)) (w : WkO ρ ρe := by first | exact True.intro | (repeat (first | exact Wk.nil | refine Wk.s ?_ | refine Wk.n ?_)))
    (hs : ∀ x, foldedSetIterable e X.env x = pure x := by intro _; rfl) : N1 X W ρe ρ (.For tg e body [] pos) ρl (m.bind fun xs => forR f xs s0) := by
  obtain ⟨wi, pi, qi⟩ := hi.ex
  obtain ⟨gt, pg, qg⟩ := hg.ex
  have hx : ∃ tb : TS, PSs X body tb ∧ ∀ s x, SNp X W ρe (u (ρl s) x) tb ρl (f s x) := by
    refine ⟨fun D σ H => ∃ s x, (∃ tb, PSs X body tb ∧ SNp X W ρe (u (ρl s) x) tb ρl (f s x)) ∧ ∃ S own, RS X.K S (u (ρl s) x) σ H own ∧ Post (f s x) (NxP X.K S own H D.nx ρl) (ErrS X.K W S own H ρe), ⟨fun pins s σ H D I h => ?_⟩, fun s x S own σ H D rs h => ⟨s, x, (hb s x).ex, S, own, rs, h⟩⟩
    obtain ⟨s, x, ⟨tb, p, q⟩, S, own, rs, h⟩ := h
    exact p.run pins _ σ H D I (q S own σ H D rs h)
  obtain ⟨tb, pb, qb⟩ := hx
  refine ⟨_, ps_for C.po C.calm pi pg pb hs, fun S own σ H D rs h => qi S own σ H _ rs (h.bind.imp (fun xs hx J H1 s1 wj => ?_) fun _ z => z.toX rs w)⟩
  refine ⟨fun i k σ' H' => i + k = xs.length ∧ ∃ s own', Ext own H1 own' H' ∧ RS X.K S (ρl s) σ' H' own' ∧ Post (forR f (xs.drop i) s) (NxP X.K S own H D.nx ρl) (ErrS X.K W S own H ρe), ⟨xs.length, Nat.zero_add _, s0, own, Ext.refl, (rs.mono s1).wk h0, hx⟩, fun i k σ' H' hW => ?_⟩
  obtain ⟨ek, s, own', x1, rs', hp⟩ := hW
  have sight : Same (hide (S ++ own) H1) (hide (S ++ own') H') := x1.sight fun _ _ _ => trivial
  by_cases hi : i < xs.length
  · refine .inr ⟨wj.goes i H' hi (sight.trans hide_sub), fun σ2 H2 => ∃ s' own2, Ext own H1 own2 H2 ∧ RS X.K S (ρl s') σ2 H2 own2 ∧ Post (forR f (xs.drop (i + 1)) s') (NxP X.K S own H D.nx ρl) (ErrS X.K W S own H ρe), fun σ2 H2 hN => ?_, fun v H2 hy => ?_⟩
    · obtain ⟨s', own2, q1, q2, q3⟩ := hN
      exact ⟨k - 1, by omega, by omega, s', own2, q1, q2, q3⟩
    · obtain ⟨s2, r2⟩ := wj.yields i H' v H2 xs[i] (S ++ own') (List.getElem?_eq_getElem hi) sight rs'.dom hy
      refine qg S own' (ρl s) σ' H2 v xs[i] _ (rs'.mono s2) r2 fun σ3 rs3 _ => ?_
      refine qb s xs[i] S own' σ3 H2 _ rs3 ?_
      rw [List.drop_eq_getElem_cons hi] at hp
      have x2 : Ext own H own' H2 := (Ext.of_same s1).trans (x1.trans (Ext.of_same s2))
      refine (show Post ((f s xs[i]).bind fun s' => forR f (xs.drop (i + 1)) s') _ _ from hp).bind.imp (fun s' hs' σ4 H4 own4 x4 rs4 => ⟨s', own4, x1.trans ((Ext.of_same s2).trans x4), rs4, hs'⟩) fun ex z => z.mono x2
  · refine .inl ⟨?_, ?_⟩
    · have e1 : i = xs.length := by omega
      rw [e1]
      exact wj.stops H' (sight.trans hide_sub)
    · rw [List.drop_eq_nil_of_le (by omega)] at hp
      exact hp σ' H' own' ((Ext.of_same s1).trans x1) rs'
theorem c_for {body : List Stmt} {m : Res (List T)} {u : List Slot → T → List Slot} {ρl : S₁ → List Slot} {f : S₁ → T → Res (Ctl S₁ S₁ R)} {s0 : S₁} {js : List Nat} (C : CtxOk X W lv) (hi : IJ X W ρ tg e m) (hg : GJ X tg u js) (h0 : Wk ρ (ρl s0)) (hb : ∀ s x, SC X W ρe (u (ρl s) x) body ρl ρl Z (f s x)) (w : WkO ρ ρe := by first | exact True.intro | (repeat (first | exact Wk.nil | refine Wk.s ?_ | refine Wk.n ?_)))
    (hs : ∀ x, foldedSetIterable e X.env x = pure x := by intro _; rfl) : C1 X W ρe ρ (.For tg e body [] pos) ρl b Z (m.bind fun xs => forC f xs s0) := by
  obtain ⟨wi, pi, qi⟩ := hi.ex
  obtain ⟨gt, pg, qg⟩ := hg.ex
  have hx : ∃ tb : TS, PSs X body tb ∧ ∀ s x, SCp X W ρe (u (ρl s) x) tb ρl ρl Z (f s x) := by
    refine ⟨fun D σ H => ∃ s x, (∃ tb, PSs X body tb ∧ SCp X W ρe (u (ρl s) x) tb ρl ρl Z (f s x)) ∧ ∃ S own, RS X.K S (u (ρl s) x) σ H own ∧ Post (f s x) (CtlP X.K S own H D ρl ρl Z) (ErrS X.K W S own H ρe), ⟨fun pins s σ H D I h => ?_⟩, fun s x S own σ H D rs h => ⟨s, x, (hb s x).ex, S, own, rs, h⟩⟩
    obtain ⟨s, x, ⟨tb, p, q⟩, S, own, rs, h⟩ := h
    exact p.run pins _ σ H D I (q S own σ H D rs h)
  obtain ⟨tb, pb, qb⟩ := hx
  refine ⟨_, ps_for C.po C.calm pi pg pb hs, fun S own σ H D rs h => qi S own σ H _ rs (h.bind.imp (fun xs hx J H1 s1 wj => ?_) fun _ z => z.toX rs w)⟩
  refine ⟨fun i k σ' H' => i + k = xs.length ∧ ∃ s own', Ext own H1 own' H' ∧ RS X.K S (ρl s) σ' H' own' ∧ Post (forC f (xs.drop i) s) (CtlP X.K S own H D ρl b Z) (ErrS X.K W S own H ρe), ⟨xs.length, Nat.zero_add _, s0, own, Ext.refl, (rs.mono s1).wk h0, hx⟩, fun i k σ' H' hW => ?_⟩
  obtain ⟨ek, s, own', x1, rs', hp⟩ := hW
  have sight : Same (hide (S ++ own) H1) (hide (S ++ own') H') := x1.sight fun _ _ _ => trivial
  by_cases hi : i < xs.length
  · refine .inr ⟨wj.goes i H' hi (sight.trans hide_sub), fun σ2 H2 => ∃ s' own2, Ext own H1 own2 H2 ∧ RS X.K S (ρl s') σ2 H2 own2 ∧ Post (forC f (xs.drop (i + 1)) s') (CtlP X.K S own H D ρl b Z) (ErrS X.K W S own H ρe), fun σ2 H2 hN => ?_, fun v H2 hy => ?_⟩
    · obtain ⟨s', own2, q1, q2, q3⟩ := hN
      exact ⟨k - 1, by omega, by omega, s', own2, q1, q2, q3⟩
    · obtain ⟨s2, r2⟩ := wj.yields i H' v H2 xs[i] (S ++ own') (List.getElem?_eq_getElem hi) sight rs'.dom hy
      refine qg S own' (ρl s) σ' H2 v xs[i] _ (rs'.mono s2) r2 fun σ3 rs3 _ => ?_
      refine qb s xs[i] S own' σ3 H2 _ rs3 ?_
      rw [List.drop_eq_getElem_cons hi] at hp
      have x2 : Ext own H own' H2 := (Ext.of_same s1).trans (x1.trans (Ext.of_same s2))
      refine (show Post ((f s xs[i]).bind _) _ _ from hp).bind.imp (fun z hz => ?_) fun ex z => z.mono x2
      cases z with
      | nx s' => exact fun σ4 H4 own4 x4 rs4 => ⟨s', own4, x1.trans ((Ext.of_same s2).trans x4), rs4, hz⟩
      | ct s' => exact fun σ4 H4 own4 x4 rs4 => ⟨s', own4, x1.trans ((Ext.of_same s2).trans x4), rs4, hz⟩
      | bk s' => exact NxP.mono (show NxP X.K S own H D.nx ρl s' from hz) x2
      | rt r => exact RtP.mono (show RtP X.K S own H D.rt Z r from hz) x2
  · refine .inl ⟨?_, ?_⟩
    · have e1 : i = xs.length := by omega
      rw [e1]
      exact wj.stops H' (sight.trans hide_sub)
    · rw [List.drop_eq_nil_of_le (by omega)] at hp
      exact hp σ' H' own' ((Ext.of_same s1).trans x1) rs'
end
end Py

set_option Elab.async false
set_option linter.all false
set_option maxRecDepth 100000
set_option maxHeartbeats 1000000
/-! Py, part F: while, comprehensions, calls of defs, defs, isinstance, is. -/
namespace Py
open PySem PySem.Spec L2
open Rp (rp)

mutual
theorem dp_same {K : PySem.W.Frag} {H H' : Hp} (s : Same H H') : ∀ {v : V} {d : PyData}, Dp K H v d → Dp K H' v d
  | _, _, .non => .non
  | _, _, .bl b => .bl b
  | _, _, .int i => .int i
  | _, _, .str x => .str x
  | _, _, .lst h r => .lst (s.seq h) (dpAll_same s r)
  | _, _, .tup h r => .tup (SqT.same s h) (dpAll_same s r)
theorem dpAll_same {K : PySem.W.Frag} {H H' : Hp} (s : Same H H') : ∀ {vs : List V} {ds : List PyData}, DpAll K H vs ds → DpAll K H' vs ds
  | _, _, .nil => .nil
  | _, _, .cons h r => .cons (dp_same s h) (dpAll_same s r)
end
section
variable {S₁ S₂ B R T A U : Type} [Rp T] [Rp A] [Rp U] {X : Cx} {W : WX} {g : Bool} {ρe : Option (List Slot)} {ρ ρ' : List Slot} {st : Stmt} {rest sts : List Stmt} {n n1 : S₁ → List Slot} {n2 : S₂ → List Slot} {b : B → List Slot} {Z : Rt R} {e a tg : Expr} {pos : Pos} {lv : Nat}

/-! ### while -/
theorem n_while {c : Expr} {body : List Stmt} {ρl : S₁ → List Slot} {mc : S₁ → Res Bool} {f : S₁ → Res S₁} {s0 : S₁} (N : Nat) (C : CtxOk X W lv) (hc : ∀ s, TJ X W (ρl s) c (mc s)) (h0 : Wk ρ (ρl s0)) (hb : ∀ s, SN X W ρe (ρl s) body ρl (f s)) (w : ∀ s, WkO (ρl s) ρe := by intro _; trivial) :
    N1 X W ρe ρ (.While c body [] pos) ρl (whileM mc f N s0) := by
  have hx : ∃ tb : TS, PSs X body tb ∧ ∀ s, SNp X W ρe (ρl s) tb ρl (f s) := by
    refine ⟨fun D σ H => ∃ s, (∃ tb, PSs X body tb ∧ SNp X W ρe (ρl s) tb ρl (f s)) ∧ ∃ S own, RS X.K S (ρl s) σ H own ∧ Post (f s) (NxP X.K S own H D.nx ρl) (ErrS X.K W S own H ρe), ⟨fun pins s σ H D I h => ?_⟩, fun s S own σ H D rs h => ⟨s, (hb s).ex, S, own, rs, h⟩⟩
    obtain ⟨s, ⟨tb, p, q⟩, S, own, rs, h⟩ := h
    exact p.run pins _ σ H D I (q S own σ H D rs h)
  have hy : ∃ tc : TT, PT X c tc ∧ ∀ s, TJp X W (ρl s) tc (mc s) := by
    refine ⟨fun σ H Q => ∃ s, (∃ tc, PT X c tc ∧ TJp X W (ρl s) tc (mc s)) ∧ ∃ S own, RS X.K S (ρl s) σ H own ∧ Post (mc s) (fun b => ∀ H', Same H H' → Q b H') (ErrX X W S own σ H), ⟨fun pins s σ H Q I h => ?_⟩, fun s S own σ H Q rs h => ⟨s, (hc s).ex, S, own, rs, h⟩⟩
    obtain ⟨s, ⟨tc, p, q⟩, S, own, rs, h⟩ := h
    exact p.run pins _ σ H Q I (q S own σ H Q rs h)
  obtain ⟨tb, pb, qb⟩ := hx
  obtain ⟨tc, pc, qc⟩ := hy
  refine ⟨_, ps_while C.po pc pb, fun S own σ H D rs h => ?_⟩
  refine ⟨fun k σ' H' => ∃ s own', Ext own H own' H' ∧ RS X.K S (ρl s) σ' H' own' ∧ Post (whileM mc f k s) (NxP X.K S own H D.nx ρl) (ErrS X.K W S own H ρe), ⟨N, s0, own, Ext.refl, rs.wk h0, h⟩, fun k σ' H' hW => ?_⟩
  obtain ⟨s, own', x1, rs', hp⟩ := hW
  cases k with
  | zero => exact hp.elim
  | succ k =>
    refine qc s S own' σ' H' _ rs' ((show Post ((mc s).bind _) _ _ from hp).bind.imp (fun b hb H2 s2 => ?_) fun _ z => (z.mono x1).toX rs' (w s))
    have x2 := x1.trans (Ext.of_same (as := own') s2)
    cases b with
    | true =>
      rw [if_pos rfl]
      refine ⟨fun σ3 H3 => ∃ s' own3, Ext own H own3 H3 ∧ RS X.K S (ρl s') σ3 H3 own3 ∧ Post (whileM mc f k s') (NxP X.K S own H D.nx ρl) (ErrS X.K W S own H ρe), fun σ3 H3 hN => ⟨k, Nat.lt_succ_self _, hN⟩, ?_⟩
      exact qb s S own' σ' H2 _ (rs'.mono s2) ((show Post ((f s).bind _) _ _ from hb).bind.imp (fun s' hs' σ4 H4 own4 x4 rs4 => ⟨s', own4, x2.trans x4, rs4, hs'⟩) fun _ z => z.mono x2)
    | false =>
      rw [if_neg Bool.false_ne_true]
      exact (show NxP X.K S own H D.nx ρl s from hb) σ' H2 own' x2 (rs'.mono s2)
theorem c_while {c : Expr} {body : List Stmt} {ρl : S₁ → List Slot} {mc : S₁ → Res Bool} {f : S₁ → Res (Ctl S₁ S₁ R)} {s0 : S₁} (N : Nat) (C : CtxOk X W lv) (hc : ∀ s, TJ X W (ρl s) c (mc s)) (h0 : Wk ρ (ρl s0)) (hb : ∀ s, SC X W ρe (ρl s) body ρl ρl Z (f s)) (w : ∀ s, WkO (ρl s) ρe := by intro _; trivial) :
    C1 X W ρe ρ (.While c body [] pos) ρl b Z (whileC mc f N s0) := by
  have hx : ∃ tb : TS, PSs X body tb ∧ ∀ s, SCp X W ρe (ρl s) tb ρl ρl Z (f s) := by
    refine ⟨fun D σ H => ∃ s, (∃ tb, PSs X body tb ∧ SCp X W ρe (ρl s) tb ρl ρl Z (f s)) ∧ ∃ S own, RS X.K S (ρl s) σ H own ∧ Post (f s) (CtlP X.K S own H D ρl ρl Z) (ErrS X.K W S own H ρe), ⟨fun pins s σ H D I h => ?_⟩, fun s S own σ H D rs h => ⟨s, (hb s).ex, S, own, rs, h⟩⟩
    obtain ⟨s, ⟨tb, p, q⟩, S, own, rs, h⟩ := h
    exact p.run pins _ σ H D I (q S own σ H D rs h)
  have hy : ∃ tc : TT, PT X c tc ∧ ∀ s, TJp X W (ρl s) tc (mc s) := by
    refine ⟨fun σ H Q => ∃ s, (∃ tc, PT X c tc ∧ TJp X W (ρl s) tc (mc s)) ∧ ∃ S own, RS X.K S (ρl s) σ H own ∧ Post (mc s) (fun b => ∀ H', Same H H' → Q b H') (ErrX X W S own σ H), ⟨fun pins s σ H Q I h => ?_⟩, fun s S own σ H Q rs h => ⟨s, (hc s).ex, S, own, rs, h⟩⟩
    obtain ⟨s, ⟨tc, p, q⟩, S, own, rs, h⟩ := h
    exact p.run pins _ σ H Q I (q S own σ H Q rs h)
  obtain ⟨tb, pb, qb⟩ := hx
  obtain ⟨tc, pc, qc⟩ := hy
  refine ⟨_, ps_while C.po pc pb, fun S own σ H D rs h => ?_⟩
  refine ⟨fun k σ' H' => ∃ s own', Ext own H own' H' ∧ RS X.K S (ρl s) σ' H' own' ∧ Post (whileC mc f k s) (CtlP X.K S own H D ρl b Z) (ErrS X.K W S own H ρe), ⟨N, s0, own, Ext.refl, rs.wk h0, h⟩, fun k σ' H' hW => ?_⟩
  obtain ⟨s, own', x1, rs', hp⟩ := hW
  cases k with
  | zero => exact hp.elim
  | succ k =>
    refine qc s S own' σ' H' _ rs' ((show Post ((mc s).bind _) _ _ from hp).bind.imp (fun b hb H2 s2 => ?_) fun _ z => (z.mono x1).toX rs' (w s))
    have x2 := x1.trans (Ext.of_same (as := own') s2)
    cases b with
    | true =>
      rw [if_pos rfl]
      refine ⟨fun σ3 H3 => ∃ s' own3, Ext own H own3 H3 ∧ RS X.K S (ρl s') σ3 H3 own3 ∧ Post (whileC mc f k s') (CtlP X.K S own H D ρl _ Z) (ErrS X.K W S own H ρe), fun σ3 H3 hN => ⟨k, Nat.lt_succ_self _, hN⟩, ?_⟩
      refine qb s S own' σ' H2 _ (rs'.mono s2) ((show Post ((f s).bind _) _ _ from hb).bind.imp (fun z hz => ?_) fun _ z => z.mono x2)
      cases z with
      | nx s' => exact fun σ4 H4 own4 x4 rs4 => ⟨s', own4, x2.trans x4, rs4, hz⟩
      | ct s' => exact fun σ4 H4 own4 x4 rs4 => ⟨s', own4, x2.trans x4, rs4, hz⟩
      | bk s' => exact NxP.mono (show NxP X.K S own H D.nx ρl s' from hz) x2
      | rt r => exact RtP.mono (show RtP X.K S own H D.rt Z r from hz) x2
    | false =>
      rw [if_neg Bool.false_ne_true]
      exact (show NxP X.K S own H D.nx ρl s from hb) σ' H2 own' x2 (rs'.mono s2)

/-! ### comprehensions -/
abbrev WF : WX := fun _ _ _ _ => False
def lcX {T U : Type} (t : T → Res Bool) (f : T → Res U) (xs : List T) : Res (List U) := guardR (decide (xs.length ≤ sizeLine)) (lcM t f xs)
def wipeS (ρ : List Slot) : List Nat → List Slot
  | [] => ρ
  | v :: vs => (wipeS ρ vs).set v .non
theorem Rs.forget {K : PySem.W.Frag} {Hs H : Hp} {o : Option V} {σ : St} {ads : List Addr} (r : Rs K Hs H ρ σ ads) : ∀ i : Nat, ∃ ads', Rs K Hs H (ρ.set i .non) (σ.set i o) ads' ∧ ads'.Sublist ads := by
  induction r with
  | nil => intro i; exact ⟨[], .nil, List.Sublist.refl _⟩
  | non r ih =>
    intro i
    cases i with
    | zero => exact ⟨_, .non r, List.Sublist.refl _⟩
    | succ i => obtain ⟨a, q1, q2⟩ := ih i; exact ⟨a, .non q1, q2⟩
  | val h1 r ih =>
    intro i
    cases i with
    | zero => exact ⟨_, .non r, List.Sublist.refl _⟩
    | succ i => obtain ⟨a, q1, q2⟩ := ih i; exact ⟨a, .val h1 q1, q2⟩
  | own h0 h1 h2 r ih =>
    intro i
    cases i with
    | zero => exact ⟨_, .non r, List.sublist_cons_self _ _⟩
    | succ i => obtain ⟨a, q1, q2⟩ := ih i; exact ⟨_, .own h0 h1 h2 q1, q2.cons₂ _⟩
  | ow h1 r ih =>
    intro i
    cases i with
    | zero => exact ⟨_, .non r, List.sublist_append_right _ _⟩
    | succ i => obtain ⟨a, q1, q2⟩ := ih i; exact ⟨_, .ow h1 q1, (List.Sublist.refl _).append q2⟩
theorem RS.forget {K : PySem.W.Frag} {S own : List Addr} {σ : St} {H : Hp} (r : RS K S ρ σ H own) (i : Nat) (o : Option V) : RS K S (ρ.set i .non) (σ.set i o) H own := by
  obtain ⟨⟨ads, h1, h2, h3⟩, h4, h5⟩ := r
  obtain ⟨ads', q1, q2⟩ := h1.forget (o := o) i
  exact ⟨⟨ads', q1, h2.sublist q2, fun a ha => h3 a (q2.subset ha)⟩, h4, h5⟩
theorem RS.wipe {K : PySem.W.Frag} {S own : List Addr} {σ : St} {H : Hp} (r : RS K S ρ σ H own) : ∀ vs : List Nat, RS K S (wipeS ρ vs) (wipe σ vs) H own
  | [] => r
  | v :: vs => (RS.wipe r vs).forget v none
theorem wipe_wipe (σ : St) : ∀ vs ws : List Nat, (∀ i ∈ vs, i ∈ ws) → L2.wipe (L2.wipe σ vs) ws = L2.wipe σ ws
  | [], _, _ => rfl
  | v :: vs, ws, h => by
    show L2.wipe ((L2.wipe σ vs).set v none) ws = _
    rw [wipe_set (h v List.mem_cons_self)]
    exact wipe_wipe σ vs ws fun i hi => h i (List.mem_cons_of_mem _ hi)
theorem RS.hideNew {K : PySem.W.Frag} {S own : List Addr} {σ : St} {H H' : Hp} {D : Addr} {o : HO} (rs : RS K S ρ σ H own) (s : Same H H') (na : H D = none) (e : H' D = some o) : RS K S ρ σ H' (D :: own) := by
  obtain ⟨⟨ads, h1, h2, h3⟩, h4, h5⟩ := rs
  refine ⟨⟨ads, h1.mono (same_hide_new s na) fun b _ o q => s b o q, h2, fun b hb => List.mem_cons_of_mem _ (h3 b hb)⟩, fun b hb => ?_, fun b hb => ?_⟩
  · rcases List.mem_cons.mp hb with z | z
    · exact z ▸ fun q => h5 D (List.mem_append_left _ q) na
    · exact h4 b z
  · rcases List.mem_append.mp hb with z | z
    · exact dom_same s (h5 b (List.mem_append_left _ z))
    · rcases List.mem_cons.mp z with z | z
      · rw [z, e]; intro q; cases q
      · exact dom_same s (h5 b (List.mem_append_right _ z))
structure LcPart (X : Cx) (scope : Scope) (ρw : List Slot) (tg elt : Expr) (ifs : List Expr) {T U : Type} [Rp T] [Rp U] (u : List Slot → T → List Slot) (js : List Nat) (t : T → Res Bool) (f : T → Res U) (s : Shared) (H : Hp) (C : Addr) (cl : List (Str × Addr)) (fp : List Addr) : Prop where
  tg : GJ (X.blk s H scope (compEnvC scope cl C X.env) fp) tg u js
  ts : ∀ x, ∃ tt, PTs (X.blk s H scope (compEnvC scope cl C X.env) fp) ifs tt ∧ TJp (X.blk s H scope (compEnvC scope cl C X.env) fp) WF (u ρw x) tt (t x)
  el : ∀ x, EG (X.blk s H scope (compEnvC scope cl C X.env) fp) WF true (u ρw x) elt (f x)
theorem lc_none {ρ : List Slot} {Y : Cx} : ∃ tt, PTs Y [] tt ∧ TJp Y WF ρ tt (.ok true) := ⟨_, pts_nil, fun S own σ H Q rs h => h H (Same.refl H)⟩
theorem lc_one {ρ : List Slot} {Y : Cx} {c : Expr} {m : Res Bool} (h : TJ Y WF ρ c m) : ∃ tt, PTs Y [c] tt ∧ TJp Y WF ρ tt m := by
  obtain ⟨t, p, q⟩ := h.ex
  exact ⟨_, pts_one p, q⟩
theorem quiet_no {α : Type} {m : Res α} {ex : Ex} : m.quiet ≠ .err ex := by cases m <;> intro h <;> cases h
theorem lcM_no {α β : Type} {t : α → Res Bool} {f : α → Res β} {xs : List α} {ex : Ex} : lcM t f xs ≠ .err ex := by
  induction xs with
  | nil => intro h; cases h
  | cons x r ih =>
    unfold lcM
    cases e1 : (t x).quiet with
    | bad => intro h; cases h
    | err z => exact absurd e1 quiet_no
    | ok b =>
      cases b with
      | false => exact ih
      | true =>
        show ((f x).quiet.bind _) ≠ _
        cases e2 : (f x).quiet with
        | bad => intro h; cases h
        | err z => exact absurd e2 quiet_no
        | ok y =>
          show ((lcM t f r).bind _) ≠ _
          cases e3 : lcM t f r with
          | bad => intro h; cases h
          | err z =>
            intro h
            cases h
            exact ih e3
          | ok ys => intro h; cases h
/-- the reading of a comprehension -/
theorem lc_read {K : PySem.W.Frag} {vs : List Nat} {ρw : List Slot} {u : List Slot → T → List Slot} {js : List Nat} {t : T → Res Bool} {f : T → Res U} {gt : TG} {tt : TT} {te : TE} {xs : List T} {J : It} {S own : List Addr} {σ : St} {H1 : Hp} {Q : VK}
    (hj : ∀ i ∈ js, i ∈ vs) (rs : RS K S ρ σ H1 own) (hw : ρw = wipeS ρ vs) (wj : WJ K (S ++ own) H1 J xs)
    (hg : ∀ (S own : List Addr) (ρ : List Slot) (σ : St) (H : Hp) (v : V) (x : T) (Q : St → Hp → Prop), RS K S ρ σ H own → rp K (hide (S ++ own) H) v x → (∀ σ', RS K S (u ρ x) σ' H own → (∀ vs : List Nat, (∀ i ∈ js, i ∈ vs) → wipe σ' vs = wipe σ vs) → Q σ' H) → gt v σ H Q)
    (ht : ∀ (x : T) (S own : List Addr) (σ : St) (H : Hp) (Q : Bool → Hp → Prop), RS K S (u ρw x) σ H own → Post (t x).quiet (fun b => ∀ H', Same H H' → Q b H') (fun _ => True) → tt σ H Q)
    (he : ∀ (x : T) (S own : List Addr) (σ : St) (H : Hp) (Q : VK), RS K S (u ρw x) σ H own → Post (f x).quiet (fun y => ∀ H' v, Same H H' → rp K (hide (S ++ own) H') v y → Q v H') (fun _ => True) → te σ H Q)
    (hp : Post (lcX t f xs) (fun ys => ∀ H' a vs, Same H1 H' → H1 a = none → H' a = some (.lst vs) → RpAll K (hide (a :: (S ++ own)) H') vs ys → Q (.ref a) H') (fun _ => True)) :
    ∀ D, H1 D = none → ∃ W : Nat → Nat → Hp → Prop, (∃ m, W 0 m (upd H1 D (.lst []))) ∧ ∀ i m H, W i m H →
      (J.stop i H ∧ Q (.ref D) H) ∨ (J.go i H ∧ ∃ Nx : Hp → Prop, (∀ H', Nx H' → ∃ m', m' < m ∧ W (i + 1) m' H') ∧ ∀ x H', J.yld i H x H' → gt x (wipe σ vs) H' fun σ2 H2 => wipe σ2 vs = wipe σ vs ∧ tt σ2 H2 fun b H3 =>
        if b = true then te σ2 H3 fun y H4 => ∃ acc, H4 D = some (.lst acc) ∧ acc.length < sizeLine ∧ Nx (upd H4 D (.lst (acc ++ [y]))) else Nx H3) := by
  intro D nD
  obtain ⟨hz, hp⟩ := hp.guard
  have hz : xs.length ≤ sizeLine := of_decide_eq_true hz
  let I : Nat → Hp → Prop := fun i H' => ∃ acc ys, Same H1 H' ∧ H' D = some (.lst acc) ∧ acc.length ≤ i ∧ RpAll K (hide (S ++ D :: own) H') acc ys ∧
    Post (lcM t f (xs.drop i)) (fun zs => ∀ H' a vs, Same H1 H' → H1 a = none → H' a = some (.lst vs) → RpAll K (hide (a :: (S ++ own)) H') vs (ys ++ zs) → Q (.ref a) H') (fun _ => True)
  refine ⟨fun i m H' => i + m = xs.length ∧ I i H', ⟨xs.length, Nat.zero_add _, [], [], same_upd nD, upd_same, Nat.zero_le _, .nil, hp⟩, fun i m H' hW => ?_⟩
  obtain ⟨em, acc, ys, sm, eD, la, ra, hq⟩ := hW
  have rsD : RS K S ρ σ H' (D :: own) := rs.hideNew sm nD eD
  have sight : Same (hide (S ++ own) H1) (hide (S ++ D :: own) H') := same_hide_new sm nD
  by_cases hi : i < xs.length
  · refine .inr ⟨wj.goes i H' hi (sight.trans hide_sub), I (i + 1), fun H2 hN => ⟨m - 1, by omega, by omega, hN⟩, fun v H2 hy => ?_⟩
    obtain ⟨s2, r2⟩ := wj.yields i H' v H2 xs[i] (S ++ D :: own) (List.getElem?_eq_getElem hi) sight rsD.dom hy
    have rs2 := rsD.mono s2
    rw [List.drop_eq_getElem_cons hi] at hq
    refine hg S (D :: own) ρw (wipe σ vs) H2 v xs[i] _ (hw ▸ rs2.wipe vs) r2 fun σ3 rs3 tz => ⟨(tz vs hj).trans (wipe_wipe σ vs vs fun _ h => h), ?_⟩
    refine ht xs[i] S (D :: own) σ3 H2 _ rs3 ((show Post ((t xs[i]).quiet.bind _) _ _ from hq).bind.imp (fun b hb H3 s3 => ?_) fun _ z => z)
    have s23 := s2.trans s3
    cases b with
    | false =>
      rw [if_neg Bool.false_ne_true]
      exact ⟨acc, ys, sm.trans s23, s23 _ _ eD, by omega, RpAll.mono (hide_same s23) ra, hb⟩
    | true =>
      rw [if_pos rfl]
      refine he xs[i] S (D :: own) σ3 H3 _ (rs3.mono s3) ((show Post ((f xs[i]).quiet.bind _) _ _ from hb).bind.imp (fun y hy H4 w s4 r4 => ?_) fun _ z => z)
      have s24 := s23.trans s4
      have hin : D ∈ S ++ D :: own := List.mem_append_right _ List.mem_cons_self
      refine ⟨acc, s24 _ _ eD, by omega, acc ++ [w], ys ++ [y], fun b o eb => ?_, upd_same, by rw [List.length_append]; exact Nat.succ_le_succ la, ?_, ?_⟩
      · rw [upd_ne (ne_of_none eb nD)]
        exact (sm.trans s24) b o eb
      · rw [hide_upd_in hin]
        exact (RpAll.mono (hide_same s24) ra).append (.cons r4 .nil)
      · refine (show Post ((lcM t f (xs.drop (i + 1))).bind fun ys => .ok (y :: ys)) _ _ from hy).bind.imp (fun zs hzs H5 a vs5 s5 na e5 r5 => ?_) fun _ z => z
        rw [List.append_assoc] at r5
        exact hzs H5 a vs5 s5 na e5 r5
  · refine .inl ⟨?_, ?_⟩
    · have e1 : i = xs.length := by omega
      rw [e1]
      exact wj.stops H' (sight.trans hide_sub)
    · rw [List.drop_eq_nil_of_le (by omega)] at hq
      refine (show ∀ H' a vs, _ from hq) H' D acc sm nD eD ?_
      rw [List.append_nil]
      refine RpAll.mono (hide_mono fun b hb => ?_) ra
      rcases List.mem_cons.mp hb with z | z
      · exact z ▸ List.mem_append_right _ List.mem_cons_self
      · rcases List.mem_append.mp z with z | z
        · exact List.mem_append_left _ z
        · exact List.mem_append_right _ (List.mem_cons_of_mem _ z)
theorem Post.quiet_of {α : Type} {m : Res α} {Q : α → Prop} {E E' : Ex → Prop} (h : Post m.quiet Q E) : Post m Q E' := h.quiet
/-- target, tests and element of a comprehension, for all its frames at once -/
theorem lc_uni {scope : Scope} {ρw : List Slot} {elt : Expr} {ifs : List Expr} {u : List Slot → T → List Slot} {js : List Nat} {t : T → Res Bool} {f : T → Res U} (h : ∀ s H C cl fp, LcPart X scope ρw tg elt ifs u js t f s H C cl fp) :
    ∃ (gt : TG) (tt : TT) (te : TE), (∀ s H C cl fp, PG (X.blk s H scope (compEnvC scope cl C X.env) fp) tg gt) ∧ (∀ s H C cl fp, PTs (X.blk s H scope (compEnvC scope cl C X.env) fp) ifs tt) ∧ (∀ s H C cl fp, PE (X.blk s H scope (compEnvC scope cl C X.env) fp) elt te) ∧
      (∀ (S own : List Addr) (ρ : List Slot) (σ : St) (H : Hp) (v : V) (x : T) (Q : St → Hp → Prop), RS X.K S ρ σ H own → rp X.K (hide (S ++ own) H) v x → (∀ σ', RS X.K S (u ρ x) σ' H own → (∀ vs : List Nat, (∀ i ∈ js, i ∈ vs) → wipe σ' vs = wipe σ vs) → Q σ' H) → gt v σ H Q) ∧
      (∀ (x : T) (S own : List Addr) (σ : St) (H : Hp) (Q : Bool → Hp → Prop), RS X.K S (u ρw x) σ H own → Post (t x).quiet (fun b => ∀ H', Same H H' → Q b H') (fun _ => True) → tt σ H Q) ∧
      (∀ (x : T) (S own : List Addr) (σ : St) (H : Hp) (Q : VK), RS X.K S (u ρw x) σ H own → Post (f x).quiet (fun y => ∀ H' v, Same H H' → rp X.K (hide (S ++ own) H') v y → Q v H') (fun _ => True) → te σ H Q) := by
  refine ⟨fun v σ H Q => ∀ s0 H0 C cl fp, ∃ gt, PG (X.blk s0 H0 scope (compEnvC scope cl C X.env) fp) tg gt ∧ gt v σ H Q,
    fun σ H Q => ∀ s0 H0 C cl fp, ∃ tt, PTs (X.blk s0 H0 scope (compEnvC scope cl C X.env) fp) ifs tt ∧ tt σ H Q,
    fun σ H Q => ∀ s0 H0 C cl fp, ∃ te, PE (X.blk s0 H0 scope (compEnvC scope cl C X.env) fp) elt te ∧ te σ H Q, ?_, ?_, ?_, ?_, ?_, ?_⟩
  · refine fun s H C cl fp => ⟨fun pins s1 σ H1 v w Q I r hq => ?_⟩
    obtain ⟨gt, p, q⟩ := hq s H C cl fp
    exact p.run pins s1 σ H1 v w Q I r q
  · refine fun s H C cl fp => ⟨fun pins s1 σ H1 Q I hq => ?_⟩
    obtain ⟨tt, p, q⟩ := hq s H C cl fp
    exact p.run pins s1 σ H1 Q I q
  · refine fun s H C cl fp => ⟨fun pins s1 σ H1 Q I hq => ?_⟩
    obtain ⟨te, p, q⟩ := hq s H C cl fp
    exact p.run pins s1 σ H1 Q I q
  · intro S own ρ σ H v x Q rs r hq s0 H0 C cl fp
    obtain ⟨gt, p, q⟩ := (h s0 H0 C cl fp).tg.ex
    exact ⟨gt, p, q S own ρ σ H v x Q rs r hq⟩
  · intro x S own σ H Q rs hq s0 H0 C cl fp
    obtain ⟨tt, p, q⟩ := (h s0 H0 C cl fp).ts x
    exact ⟨tt, p, q S own σ H Q rs hq.quiet⟩
  · intro x S own σ H Q rs hq s0 H0 C cl fp
    obtain ⟨te, p, q⟩ := ((h s0 H0 C cl fp).el x).ex
    exact ⟨te, p, q S own σ H Q rs hq.quiet⟩
theorem lcX_quiet {α β : Type} {t : α → Res Bool} {f : α → Res β} {xs : List α} {Q : List β → Prop} {E E' : Ex → Prop} (h : Post (lcX t f xs) Q E) : Post (lcX t f xs) Q E' := by
  obtain ⟨h1, h2⟩ := h.guard
  unfold lcX guardR
  rw [h1, if_pos rfl]
  cases e1 : lcM t f xs with
  | ok a => rw [e1] at h2; exact h2
  | bad => rw [e1] at h2; exact h2
  | err z => exact absurd e1 lcM_no
theorem f_lc {elt iter : Expr} {ifs : List Expr} {scope : Scope} {ow : List (Str × Nat)} {ρw : List Slot} {u : List Slot → T → List Slot} {js : List Nat} {t : T → Res Bool} {f : T → Res U} {m : Res (List T)} (C : CtxOk X W lv) (hi : IJ X W ρ tg iter m)
    (h : ∀ s H C cl fp, LcPart X scope ρw tg elt ifs u js t f s H C cl fp) (hw : ρw = wipeS ρ (ow.map (·.2)) := by rfl) (hj : ∀ i ∈ js, i ∈ ow.map (·.2) := by decide) (ok : BlkOk X.N X.env.scope scope ow := by exact blkOk_by (by rfl)) (hs : ∀ x, foldedSetIterable iter X.env x = pure x := by intro _; rfl) :
    FG X W ρ (.ListComp elt [⟨tg, iter, ifs, 0⟩] scope pos) (m.bind fun xs => lcX t f xs) := by
  obtain ⟨wi, pi, qi⟩ := hi.ex
  obtain ⟨gt, tt, te, pg, pt, pe, hg, ht, he⟩ := lc_uni h
  refine ⟨_, pe_lc C.calm C.nd pi ok pg pt pe hs, fun S own σ H Q rs hP => qi S own σ H _ rs (hP.bind.imp (fun xs hx J H1 s1 wj => ?_) fun _ z => z)⟩
  refine lc_read hj (rs.mono s1) hw wj hg ht he (Post.imp (lcX_quiet hx (E' := fun _ => True)) (fun ys hy H' a vs s na e1 e2 => hy H' a vs (s1.trans s) (s1.free na) e1 e2) fun _ z => z)
/-- y = [..], a local -/
theorem n_lcF (i : Nat) {y : Str} {py spos : Pos} {elt iter : Expr} {ifs : List Expr} {scope : Scope} {ow : List (Str × Nat)} {ρw : List Slot} {u : List Slot → T → List Slot} {js : List Nat} {t : T → Res Bool} {f : T → Res U} {m : Res (List T)} {n3 : List U → List Slot} (C : CtxOk X W lv) (hi : IJ X W ρ tg iter m)
    (h : ∀ s H C cl fp, LcPart X scope ρw tg elt ifs u js t f s H C cl fp) (hn : ∀ v, n3 v = ρ.set i (.own U none v) := by intro _; rfl) (hw : ρw = wipeS ρ (ow.map (·.2)) := by rfl) (hl : i < ρ.length := by exact Nat.le_of_ble_eq_true rfl) (hj : ∀ i ∈ js, i ∈ ow.map (·.2) := by decide) (w : WkO ρ ρe := by first | exact True.intro | (repeat (first | exact Wk.nil | refine Wk.s ?_ | refine Wk.n ?_)))
    (hy : X.N[i]? = some y := by rfl) (hyl : X.env.scope.names.lookup y = some .local := by rfl) (hsw : swapsWith (.ListComp elt [⟨tg, iter, ifs, 0⟩] scope pos) (some (.Name y py)) spos.line X.env = pure true := by exact sw_true rfl rfl rfl (by decide +kernel))
    (ok : BlkOk X.N X.env.scope scope ow := by exact blkOk_by (by rfl)) (hs : ∀ x, foldedSetIterable iter X.env x = pure x := by intro _; rfl) :
    N1 X W ρe ρ (.Assign [.Name y py] (.ListComp elt [⟨tg, iter, ifs, 0⟩] scope pos) spos) n3 (m.bind fun xs => lcX t f xs) := by
  obtain ⟨wi, pi, qi⟩ := hi.ex
  obtain ⟨gt, tt, te, pg, pt, pe, hg, ht, he⟩ := lc_uni h
  refine ⟨_, ps_setLc C.calm C.nd hy hyl hsw pi ok pg pt pe hs, fun S own σ H D rs hP => qi S own σ H _ rs (hP.bind.imp (fun xs hx J H1 s1 wj => ?_) fun _ z => z.toX rs w)⟩
  refine lc_read (Q := fun v H2 => D.nx (σ.set i (some v)) H2) hj (rs.mono s1) hw wj hg ht he (Post.imp (lcX_quiet hx (E' := fun _ => True)) (fun ys hy H' a vs s na e1 e2 => hy _ H' (a :: own) ⟨fun b o z _ => (s1.trans s) b o z, fun b z => dom_same (s1.trans s) z, fun b z => ?_⟩ ?_) fun _ z => z)
  · rcases List.mem_cons.mp z with z | z
    · exact .inr (z ▸ s1.free na)
    · exact .inl z
  · rw [hn]
    exact rs.setOwn (s1.trans s) (s1.free na) e1 e2 i hl
/-- .. only read from then on -/
theorem n_lc (i : Nat) {y : Str} {py spos : Pos} {elt iter : Expr} {ifs : List Expr} {scope : Scope} {ow : List (Str × Nat)} {ρw : List Slot} {u : List Slot → T → List Slot} {js : List Nat} {t : T → Res Bool} {f : T → Res U} {m : Res (List T)} {n3 : List U → List Slot} (C : CtxOk X W lv) (hi : IJ X W ρ tg iter m)
    (h : ∀ s H C cl fp, LcPart X scope ρw tg elt ifs u js t f s H C cl fp) (hn : ∀ v, n3 v = ρ.set i (.val (List U) v) := by intro _; rfl) (hw : ρw = wipeS ρ (ow.map (·.2)) := by rfl) (hj : ∀ i ∈ js, i ∈ ow.map (·.2) := by decide) (w : WkO ρ ρe := by first | exact True.intro | (repeat (first | exact Wk.nil | refine Wk.s ?_ | refine Wk.n ?_)))
    (hy : X.N[i]? = some y := by rfl) (hyl : X.env.scope.names.lookup y = some .local := by rfl) (hsw : swapsWith (.ListComp elt [⟨tg, iter, ifs, 0⟩] scope pos) (some (.Name y py)) spos.line X.env = pure true := by exact sw_true rfl rfl rfl (by decide +kernel))
    (ok : BlkOk X.N X.env.scope scope ow := by exact blkOk_by (by rfl)) (hs : ∀ x, foldedSetIterable iter X.env x = pure x := by intro _; rfl) :
    N1 X W ρe ρ (.Assign [.Name y py] (.ListComp elt [⟨tg, iter, ifs, 0⟩] scope pos) spos) n3 (m.bind fun xs => lcX t f xs) := by
  obtain ⟨wi, pi, qi⟩ := hi.ex
  obtain ⟨gt, tt, te, pg, pt, pe, hg, ht, he⟩ := lc_uni h
  refine ⟨_, ps_setLc C.calm C.nd hy hyl hsw pi ok pg pt pe hs, fun S own σ H D rs hP => qi S own σ H _ rs (hP.bind.imp (fun xs hx J H1 s1 wj => ?_) fun _ z => z.toX rs w)⟩
  refine lc_read (Q := fun v H2 => D.nx (σ.set i (some v)) H2) hj (rs.mono s1) hw wj hg ht he (Post.imp (lcX_quiet hx (E' := fun _ => True)) (fun ys hy H' a vs s na e1 e2 => hy _ H' own (Ext.of_same (s1.trans s)) ?_) fun _ z => z)
  rw [hn]
  have e3 : hide (S ++ own) H' a = some (.lst vs) := by
    rw [hide_out fun z => (rs.mono s1).dom a z na]
    exact e1
  have r : rp X.K (hide (S ++ own) H') (V.ref a) ys := ⟨a, vs, rfl, e3, RpAll.mono (hide_mono fun z hz => List.mem_cons_of_mem _ hz) e2⟩
  exact (rs.mono (s1.trans s)).set r i
theorem passN {X : Cx} : Passes (L2N.CX X.prog X.w) X E0 := fun _ _ _ _ _ _ _ q => by
  rcases q with ⟨_, _, _, _, _, _, _, _, _, _, _, _, z⟩
  exact z.elim
theorem takesN {X : Cx} : L2N.Takes X (fun _ _ _ _ => False) := fun _ _ q => by
  rcases q with ⟨_, _, _, _, _, _, _, _, _, _, _, _, _, _, _, _, z⟩
  exact z.elim
/-- the frame of a comprehension's block -/
theorem CtxOk.blk (C : CtxOk X W lv) {s : Shared} {H : Hp} {scope : Scope} {cenv : Env} {fp : List Addr} : CtxOk (X.blk s H scope cenv fp) WF lv :=
  ⟨C.calm, C.nd, takesN, PassesOwn.never, C.room⟩

/-! ### calls of defs -/
def spOf (K : PySem.W.Frag) {A R : Type} [Rp R] (as : A → List AV) (f : A → Res R) : Sp := fun vs H Q E => ∃ (S : List Addr) (x : A), (∀ a ∈ S, H a ≠ none) ∧ ArgsR K (hide S H) vs (as x) ∧
  Post (f x) (fun r => ∀ H' v, Same H H' → rp K (hide S H') v r → Q v H') (fun e => ∀ H' c d, Same H H' → ExR K (hide S H') c d e → E c d H')
def spFr (K : PySem.W.Frag) {A T : Type} [Rp T] (as : A → List AV) (f : A → Res (List T)) : Sp := fun vs H Q E => ∃ (S : List Addr) (x : A), (∀ a ∈ S, H a ≠ none) ∧ ArgsR K (hide S H) vs (as x) ∧
  Post (f x) (fun r => ∀ H' a vs, Same H H' → H a = none → H' a = some (.lst vs) → RpAll K (hide (a :: S) H') vs r → Q (.ref a) H') (fun e => ∀ H' c d, Same H H' → ExR K (hide S H') c d e → E c d H')
structure FOk (P : Program) (w : World) (K : PySem.W.Frag) (mg : Str → Option Value) (base : Heap) (name : Str) (k : Nat) (sp : Sp) : Prop where
  ok : ∃ fd ps, FnOk P w K mg base (L2N.CX P w) k (He.ga K name) fd ps sp ∧ Binds K fd ps []
  kp : PySem.W.keepIn K (.ref (He.ga K name)) = true
  gl : mg name = some (.ref (He.ga K name))
theorem call_err {S own : List Addr} {σ : St} {H H' : Hp} {g : Bool} {ex : Ex} (h : ErrX X W S own σ H ex) (s : Same H H') (hg : g = true) : ∀ H2 c d, Same H' H2 → ExR X.K (hide (reg g S own) H2) c d ex → WE W σ c d H2 := fun H2 c d s2 x => by
  subst hg
  exact h H2 c d (s.trans s2) x
theorem e_call {x : Str} {p : Pos} {es : List Expr} {A R : Type} [Rp R] {as : A → List AV} {f : A → Res R} {m : Res R} {k : Nat} (C : CtxOk X W lv) (F : FOk X.prog X.w X.K X.mg X.base x k (spOf X.K as f)) (ha : AJ X W true ρ (a :: es) as f m) (hk : k ≤ lv := by decide)
    (hg : Gl X x := by rfl) (hdb : (x == ("__debug__" : Str)) = false := by decide) (he : starEach (a :: es) X.env = (false, eval a X.env) :: starEach es X.env := by rfl) (hpl : (backTo pos (starEach es X.env)).any (·.1) = false := by rfl) :
    EG X W true ρ (.Call (.Name x p) (a :: es) [] pos) m := by
  obtain ⟨t, pa, qa⟩ := ha.ex
  obtain ⟨fd, ps, F1, F2⟩ := F.ok
  refine ⟨_, pe_callS F1 (C.room.mono hk) hg F.gl F.kp F2 (fun σ => L2N.passAt C.tk σ) pa hdb he hpl, fun S own σ H Q rs h => ?_⟩
  refine qa S own σ H _ _ _ rs (fun e z => z) h fun x vs H' s r hx => ⟨S ++ own, x, (rs.mono s).dom, r, hx.imp (fun y hy H2 v s2 r2 => hy H2 v (s.trans s2) r2) fun ex z => call_err (g := true) z s rfl⟩
theorem e_call0 {x : Str} {p : Pos} {A R : Type} [Rp R] {as : A → List AV} {f : A → Res R} {k : Nat} (C : CtxOk X W lv) (F : FOk X.prog X.w X.K X.mg X.base x k (spOf X.K as f)) (u : A) (hu : as u = [] := by rfl) (hk : k ≤ lv := by decide)
    (hg : Gl X x := by rfl) (hdb : (x == ("__debug__" : Str)) = false := by decide) : EG X W true ρ (.Call (.Name x p) [] [] pos) (f u).quiet := by
  obtain ⟨fd, ps, F1, F2⟩ := F.ok
  refine ⟨_, pe_call0 F1 (C.room.mono hk) hg F.gl F.kp F2 .nil passN hdb, fun S own σ H Q rs h => ⟨S ++ own, u, rs.dom, hu ▸ .nil, Post.imp (h.quiet (E' := fun _ => False)) (fun y hy H2 v s2 r2 => hy H2 v s2 r2) fun _ z => z.elim⟩⟩
/-- lists of one's own are lent; what would be raised is not served -/
theorem e_callb {x : Str} {p : Pos} {es : List Expr} {A R : Type} [Rp R] {as : A → List AV} {f : A → Res R} {m : Res R} {k : Nat} (C : CtxOk X W lv) (F : FOk X.prog X.w X.K X.mg X.base x k (spOf X.K as f)) (ha : AJ X W false ρ (a :: es) as (fun x => (f x).quiet) m) (hk : k ≤ lv := by decide)
    (hg : Gl X x := by rfl) (hdb : (x == ("__debug__" : Str)) = false := by decide) (he : starEach (a :: es) X.env = (false, eval a X.env) :: starEach es X.env := by rfl) (hpl : (backTo pos (starEach es X.env)).any (·.1) = false := by rfl) :
    EG X W false ρ (.Call (.Name x p) (a :: es) [] pos) m := by
  obtain ⟨t, pa, qa⟩ := ha.ex
  obtain ⟨fd, ps, F1, F2⟩ := F.ok
  refine ⟨_, pe_callS F1 (C.room.mono hk) hg F.gl F.kp F2 (fun σ => L2N.passAt C.tk σ) pa hdb he hpl, fun S own σ H Q rs h => ?_⟩
  refine qa S own σ H _ _ _ rs (fun e z => z) h fun x vs H' s r hx => ⟨S, x, fun b hb => (rs.mono s).dom b (List.mem_append_left _ hb), r, Post.imp (hx.quiet (E' := fun _ => False)) (fun y hy H2 v s2 r2 => hy H2 v (s.trans s2) r2) fun _ z => z.elim⟩
theorem f_call {x : Str} {p : Pos} {es : List Expr} {A : Type} {as : A → List AV} {f : A → Res (List T)} {m : Res (List T)} {k : Nat} (C : CtxOk X W lv) (F : FOk X.prog X.w X.K X.mg X.base x k (spFr X.K as f)) (ha : AJ X W true ρ (a :: es) as f m) (hk : k ≤ lv := by decide)
    (hg : Gl X x := by rfl) (hdb : (x == ("__debug__" : Str)) = false := by decide) (he : starEach (a :: es) X.env = (false, eval a X.env) :: starEach es X.env := by rfl) (hpl : (backTo pos (starEach es X.env)).any (·.1) = false := by rfl) :
    FG X W ρ (.Call (.Name x p) (a :: es) [] pos) m := by
  obtain ⟨t, pa, qa⟩ := ha.ex
  obtain ⟨fd, ps, F1, F2⟩ := F.ok
  refine ⟨_, pe_callS F1 (C.room.mono hk) hg F.gl F.kp F2 (fun σ => L2N.passAt C.tk σ) pa hdb he hpl, fun S own σ H Q rs h => ?_⟩
  refine qa S own σ H _ _ _ rs (fun e z => z) h fun x vs H' s r hx => ⟨S ++ own, x, (rs.mono s).dom, r, hx.imp (fun y hy H2 a vs s2 na e1 e2 => hy H2 a vs (s.trans s2) (s.free na) e1 e2) fun ex z => call_err (g := true) z s rfl⟩

/-! ### defs -/
def AV.slot : AV → Slot
  | @AV.mk T inst x => @Slot.val T inst x
theorem rs_args {K : PySem.W.Frag} {H Hs : Hp} {vs : List V} {xs : List AV} (h : ArgsR K Hs vs xs) (k : Nat) : Rs K Hs H (xs.map AV.slot ++ List.replicate k .non) (vs.map some ++ List.replicate k none) [] := by
  induction h with
  | nil =>
    induction k with
    | zero => exact .nil
    | succ k ih => exact .non ih
  | @cons v vs x xs r _ ih =>
    cases x with
    | @mk T inst x => exact @Rs.val K Hs H _ _ _ T inst x v r ih
theorem rs_start {K : PySem.W.Frag} {S : List Addr} {H : Hp} {N : List Str} {vs : List V} {xs : List AV} (h : ArgsR K (hide S H) vs xs) (hd : ∀ a ∈ S, H a ≠ none) : RS K S (xs.map AV.slot ++ List.replicate (N.length - vs.length) .non) (start N vs) H [] := by
  refine ⟨⟨[], ?_, List.nodup_nil, (fun _ z => nomatch z)⟩, (fun _ z => nomatch z), fun a ha => hd a (by rw [List.append_nil] at ha; exact ha)⟩
  rw [List.append_nil]
  exact rs_args h _
abbrev fcx (P : Program) (w : World) (K : PySem.W.Frag) (mg : Str → Option Value) (base : Heap) (N : List Str) (qual : Str) (scope : Scope) (f : Addr) (cdv : Value) (A : Around) (outer : List Env) (s : Shared) (H : Hp) (E : XK) : Cx := cxOf (L2N.CX P w) P w K mg base N qual scope f cdv A outer s H E
section
variable {P : Program} {w : World} {K : PySem.W.Frag} {mg : Str → Option Value} {base : Heap} {x qual : Str} {params : Arguments} {body : List Stmt} {scope : Scope} {kws : List (Str × V)} {fd : FuncData} {N ps : List Str} {k : Nat} {A : Type} {as : A → List AV}
theorem fctx {f : Addr} {cdv : Value} {A : Around} {outer : List Env} {s : Shared} {H : Hp} {E : XK} (S : FnScope N ps scope) (hr : Room k (A.deeper (PyProof.Rows.envOfC qual scope s.heap.objs.size f cdv))) : CtxOk (fcx P w K mg base N qual scope f cdv A outer s H E) (fun c d _ H' => E c d H') k :=
  ⟨rfl, S.nd, L2N.takes_of rfl rfl rfl rfl, passes_of rfl, hr⟩
/-- a def that hands back a value -/
theorem fok_data {R : Type} [Rp R] {f : A → Res R} {ρ0 : A → List Slot} (F : FunD K x qual params body scope [] kws (He.ga K x) fd) (hgl : mg x = some (.ref (He.ga K x))) (S : FnScope N ps scope) (hb : Binds K fd ps []) (hl : ∀ u, (as u).length = ps.length := by intro _; rfl)
    (h0 : ∀ u, ρ0 u = (as u).map AV.slot ++ List.replicate (N.length - ps.length) .non := by intro _; rfl)
    (d : ∀ cdv A outer s H E, CtxOk (fcx P w K mg base N qual scope (He.ga K x) cdv A outer s H E) (fun c d _ H' => E c d H') k → ∀ u, SR (fcx P w K mg base N qual scope (He.ga K x) cdv A outer s H E) (fun c d _ H' => E c d H') none (ρ0 u) body (retD R) (f u)) :
    FOk P w K mg base x (k + 1) (spOf K as f) := by
  refine ⟨⟨fd, ps, FunD.ok F S (fun vs H Q E h => ?_) (fun cdv A outer s H vs Q E hr h => ?_), hb⟩, F.kp, hgl⟩
  · obtain ⟨S', u, _, r, _⟩ := h
    rw [r.length, hl]
  · obtain ⟨S', u, hd, r, hp⟩ := h
    obtain ⟨t, p, q⟩ := (d cdv A outer s H E (fctx S hr) u).ex
    refine ⟨t, p, q S' [] _ H _ ?_ (hp.imp (fun y hy v σ' H' own' x' _ z => hy H' v x'.nil_same (Rp.mono (hide_mono fun b hb => List.mem_append_left _ hb) z)) fun e he σ' H' own' c d x' _ z => ?_)⟩
    · rw [h0, ← hl u, ← r.length]
      exact rs_start r hd
    · obtain ⟨z1, dx, fs, z2, z3, z4⟩ := z
      refine he H' c d x'.nil_same ⟨z1, dx, fs, z2, hide_mono (fun b hb => List.mem_append_left _ hb) _ _ z3, Paired.imp2 z4 fun a b z => ⟨z.1, ?_⟩⟩
      exact (dp_same (hide_mono fun b hb => List.mem_append_left _ hb) z.2)
end
end
end Py

set_option Elab.async false
set_option linter.all false
set_option maxRecDepth 100000
set_option maxHeartbeats 1000000
/-! Py, part G: defs (further), isinstance, is, == of data. -/
namespace Py
open PySem PySem.Spec L2
open Rp (rp)

section
variable {P : Program} {w : World} {K : PySem.W.Frag} {mg : Str → Option Value} {base : Heap} {x qual : Str} {params : Arguments} {body : List Stmt} {scope : Scope} {kws : List (Str × V)} {fd : FuncData} {N ps : List Str} {k : Nat} {A : Type} {as : A → List AV}
theorem exr_sub {K : PySem.W.Frag} {H H' : Hp} {c : Value} {d : Option Addr} {e : Ex} (s : Same H H') (h : ExR K H c d e) : ExR K H' c d e := by
  obtain ⟨z1, dx, fs, z2, z3, z4⟩ := h
  exact ⟨z1, dx, fs, z2, s _ _ z3, Paired.imp2 z4 fun a b z => ⟨z.1, dp_same s z.2⟩⟩
/-- a def that hands back a new list -/
theorem fok_fr {T : Type} [Rp T] {f : A → Res (List T)} {ρ0 : A → List Slot} (F : FunD K x qual params body scope [] kws (He.ga K x) fd) (hgl : mg x = some (.ref (He.ga K x))) (S : FnScope N ps scope) (hb : Binds K fd ps []) (hl : ∀ u, (as u).length = ps.length := by intro _; rfl)
    (h0 : ∀ u, ρ0 u = (as u).map AV.slot ++ List.replicate (N.length - ps.length) .non := by intro _; rfl)
    (d : ∀ cdv A outer s H E, CtxOk (fcx P w K mg base N qual scope (He.ga K x) cdv A outer s H E) (fun c d _ H' => E c d H') k → ∀ u, SR (fcx P w K mg base N qual scope (He.ga K x) cdv A outer s H E) (fun c d _ H' => E c d H') none (ρ0 u) body (retF T) (f u)) :
    FOk P w K mg base x (k + 1) (spFr K as f) := by
  refine ⟨⟨fd, ps, FunD.ok F S (fun vs H Q E h => ?_) (fun cdv A outer s H vs Q E hr h => ?_), hb⟩, F.kp, hgl⟩
  · obtain ⟨S', u, _, r, _⟩ := h
    rw [r.length, hl]
  · obtain ⟨S', u, hd, r, hp⟩ := h
    obtain ⟨t, p, q⟩ := (d cdv A outer s H E (fctx S hr) u).ex
    refine ⟨t, p, q S' [] _ H _ ?_ (hp.imp (fun y hy v σ' H' own' x' _ z => ?_) fun e he σ' H' own' c d x' _ z => he H' c d x'.nil_same (exr_sub (hide_mono fun b hb => List.mem_append_left _ hb) z))⟩
    · rw [h0, ← hl u, ← r.length]
      exact rs_start r hd
    · obtain ⟨a, vs', rfl, ha, e1, e2⟩ := z
      have na : H a = none := (x'.own a ha).resolve_left (fun z => nomatch z)
      refine hy H' a vs' x'.nil_same na e1 (RpAll.mono (hide_mono fun b hb => ?_) e2)
      rcases List.mem_cons.mp hb with z | z
      · exact z ▸ List.mem_append_right _ ha
      · exact List.mem_append_left _ z
/-- a new list is a value -/
theorem FOk.fr {T : Type} [Rp T] {f : A → Res (List T)} {k : Nat} (F : FOk P w K mg base x k (spFr K as f)) : FOk P w K mg base x k (spOf K as f) := by
  obtain ⟨⟨fd, ps, F1, F2⟩, h2, h3⟩ := F
  refine ⟨⟨fd, ps, F1.imp fun vs H Q E h => ?_, F2⟩, h2, h3⟩
  obtain ⟨S, u, hd, r, hp⟩ := h
  refine ⟨S, u, hd, r, hp.imp (fun y hy H' a vs' s na e1 e2 => hy H' _ s ⟨a, vs', rfl, ?_, RpAll.mono (hide_mono fun z hz => List.mem_cons_of_mem _ hz) e2⟩) fun _ z => z⟩
  rw [hide_out fun z => hd a z na]
  exact e1
/-- a def that hands back None at its end -/
theorem fok_none {S₁ : Type} {f : A → Res S₁} {n : S₁ → List Slot} {ρ0 : A → List Slot} (F : FunD K x qual params body scope [] kws (He.ga K x) fd) (hgl : mg x = some (.ref (He.ga K x))) (S : FnScope N ps scope) (hb : Binds K fd ps []) (hl : ∀ u, (as u).length = ps.length := by intro _; rfl)
    (h0 : ∀ u, ρ0 u = (as u).map AV.slot ++ List.replicate (N.length - ps.length) .non := by intro _; rfl)
    (d : ∀ cdv A outer s H E, CtxOk (fcx P w K mg base N qual scope (He.ga K x) cdv A outer s H E) (fun c d _ H' => E c d H') k → ∀ u, SN (fcx P w K mg base N qual scope (He.ga K x) cdv A outer s H E) (fun c d _ H' => E c d H') none (ρ0 u) body n (f u)) :
    FOk P w K mg base x (k + 1) (spOf K as fun u => (f u).bind fun _ => .ok ()) := by
  refine ⟨⟨fd, ps, FunD.ok F S (fun vs H Q E h => ?_) (fun cdv A outer s H vs Q E hr h => ?_), hb⟩, F.kp, hgl⟩
  · obtain ⟨S', u, _, r, _⟩ := h
    rw [r.length, hl]
  · obtain ⟨S', u, hd, r, hp⟩ := h
    obtain ⟨t, p, q⟩ := (d cdv A outer s H E (fctx S hr) u).ex
    refine ⟨t, p, q S' [] _ H _ ?_ (hp.bind.imp (fun y hy σ' H' own' x' _ => hy H' .non x'.nil_same rfl) fun e he σ' H' own' c d x' _ z => he H' c d x'.nil_same (exr_sub (hide_mono fun b hb => List.mem_append_left _ hb) z))⟩
    rw [h0, ← hl u, ← r.length]
    exact rs_start r hd
theorem FOk.of_eq {R : Type} [Rp R] {f f' : A → Res R} {k : Nat} (F : FOk P w K mg base x k (spOf K as f)) (h : ∀ u, f u = f' u) : FOk P w K mg base x k (spOf K as f') := by
  have e : f = f' := funext h
  subst e
  exact F
theorem FOk.mono {sp : Sp} {j k : Nat} (F : FOk P w K mg base x j sp) (h : j ≤ k) : FOk P w K mg base x k sp := by
  obtain ⟨⟨fd, ps, F1, F2⟩, h2, h3⟩ := F
  exact ⟨⟨fd, ps, F1.mono h, F2⟩, h2, h3⟩
end

/-! ### kinds by name -/
class Ty (T : Type) [Rp T] where
  ty : T → String
  ok : ∀ {K : PySem.W.Frag} {B : List Addr} {H : Hp} {v : V} {x : T}, rp K (hide B H) v x → TyX K H v (.type (ty x))
theorem tyx_tup {K : PySem.W.Frag} {H : Hp} {a : Addr} {vs : List V} (h : SqT K H a vs) : TyX K H (.ref a) (.type "tuple") := by
  rcases h with (h | ⟨o, h⟩) | ⟨o, its, n, h1, h2, _⟩
  · exact .base (.tup h)
  · exact .fTuple h
  · exact .kTuple h1 h2
theorem tyx_lst {K : PySem.W.Frag} {H : Hp} {a : Addr} {vs : List V} (h : SqL K H a vs) : TyX K H (.ref a) (.type "list") := by
  rcases h with (h | ⟨o, h⟩) | ⟨o, its, n, h1, h2, _⟩
  · exact .base (.lst h)
  · exact .base (.frz h)
  · exact .kList h1 h2
instance : Ty Int := ⟨fun _ => "int", fun h => by cases h; exact .base (.int _)⟩
instance : Ty Bool := ⟨fun _ => "bool", fun h => by cases h; exact .base (.bl _)⟩
instance : Ty Str := ⟨fun _ => "str", fun h => by cases h; exact .base (.str _)⟩
instance : Ty Unit := ⟨fun _ => "NoneType", fun h => by cases h; exact .base .non⟩
instance {T : Type} [Rp T] : Ty (List T) := ⟨fun _ => "list", fun h => by
  obtain ⟨a, vs, rfl, e1, _⟩ := h
  exact tyx_lst (.inl (.inl (hide_sub _ _ e1)))⟩
instance {T : Type} [Rp T] : Ty (Tup T) := ⟨fun _ => "tuple", fun h => by
  obtain ⟨a, vs, rfl, e1, _⟩ := h
  exact tyx_tup (SqT.same hide_sub e1)⟩
instance (priority := low) {T : Type} [Places T] : Ty T := ⟨fun _ => "tuple", fun h => by
  obtain ⟨a, vs, rfl, e1, _⟩ := h
  exact tyx_tup (SqT.same hide_sub e1)⟩
instance {T : Type} [Rp T] [Ty T] : Ty (Option T) := ⟨fun | none => "NoneType" | some y => Ty.ty y, fun {K B H v x} h => by
  cases x with
  | none => rw [show v = .non from h]; exact .base .non
  | some y => exact Ty.ok (B := B) h.1⟩
section
variable {S₁ S₂ B R T A U : Type} [Rp T] [Rp A] [Rp U] {X : Cx} {W : WX} {g : Bool} {ρe : Option (List Slot)} {ρ ρ' : List Slot} {e a b : Expr} {pos : Pos} {lv : Nat}
/-- isinstance(x, T) -/
theorem e_isi [Ty T] {m : Res T} {c : String} {n : Str} {p p2 : Pos} {f : T → Bool} (h : EG X W true ρ a m) (hm : X.mg "isinstance" = none) (hm2 : X.mg n = none) (hk : ∀ x : T, kitB (Ty.ty x) c = some (f x) := by intro _; decide +kernel) (hv : bootBuiltins n = some (.type c) := by decide +kernel)
    (hg : Gl X "isinstance" := by rfl) (hg2 : Gl X n := by rfl) (hn : n ≠ "__name__" := by decide) (hdb : (n == ("__debug__" : Str)) = false := by decide)
    (he : starEach [a, .Name n p2] X.env = (false, eval a X.env) :: starEach [.Name n p2] X.env := by rfl) (he2 : starEach [.Name n p2] X.env = (false, eval (.Name n p2) X.env) :: starEach [] X.env := by rfl) (hpl : (backTo pos (starEach [.Name n p2] X.env)).any (·.1) = false := by rfl) :
    EG X W g ρ (.Call (.Name "isinstance" p) [a, .Name n p2] [] pos) (m.bind fun x => .ok (f x)) := by
  obtain ⟨ta, pa, qa⟩ := h.ex
  have pn : PE X (.Name n p2) (tC (.ty c)) := pe_bltn hg2 hm2 hv rfl hn hdb
  refine ⟨_, pe_callB call_isi hg hm (by decide +kernel) (pa_cons pa (pa_cons pn pa_nil he2) he) (by decide) (by decide) he hpl, fun S own σ H Q rs hp => one_run (R' := fun v H2 => rIsi X.K [v, .ty c] H2 Q) qa rs hp fun x v H2 s r1 hq => ?_⟩
  exact ⟨v, .ty c, _, _, f x, rfl, .ty c, Ty.ok r1, kit_ty (hk x), hq H2 _ s rfl⟩
/-- x is True, x is False -/
theorem e_isB {m n : Res Bool} (h : EG X W true ρ a m) (h2 : EG X W true ρ b n) : CJ X W ρ .Is a b (m.bind fun x => n.bind fun y => .ok (decide (x = y))) :=
  e_cmpR (f := fun x y => .ok (decide (x = y))) op_isBl (nomark _) h h2 (fun _ _ H x y v u Q r1 r2 hq => by
    cases r1
    cases r2
    exact ⟨x, y, rfl, rfl, hq⟩)
theorem e_isnotB {m n : Res Bool} (h : EG X W true ρ a m) (h2 : EG X W true ρ b n) : CJ X W ρ .IsNot a b (m.bind fun x => n.bind fun y => .ok (!decide (x = y))) :=
  e_cmpR (f := fun x y => .ok (!decide (x = y))) op_notBl (nomark _) h h2 (fun _ _ H x y v u Q r1 r2 hq => by
    cases r1
    cases r2
    exact ⟨x, y, rfl, rfl, hq⟩)
theorem opt_non {K : PySem.W.Frag} {H : Hp} {v : V} {x : Option T} (h : rp K H v x) : decide (v = .non) = x.isNone := by
  cases x with
  | none => rw [show v = .non from h]; rfl
  | some y => exact decide_eq_false h.2
theorem e_isN {m : Res (Option T)} {j p2} (h : EG X W true ρ a m) : CJ X W ρ .Is a (.Constant .none j p2) (m.bind fun x => .ok x.isNone) := by
  obtain ⟨ta, pa, qa⟩ := h.ex
  refine ⟨_, _, _, op_isN, nomark _, pa, pe_non, fun S own σ H Q R rs hp hR => one_run (R' := fun v H2 => (V.non = .non ∧ R (.bl (decide (v = .non))) H2)) qa rs hp fun x v H2 s r1 hq => ⟨rfl, ?_⟩⟩
  rw [opt_non r1]
  exact hR _ _ (hq H2 s)
theorem e_isnotN {m : Res (Option T)} {j p2} (h : EG X W true ρ a m) : CJ X W ρ .IsNot a (.Constant .none j p2) (m.bind fun x => .ok (!x.isNone)) := by
  obtain ⟨ta, pa, qa⟩ := h.ex
  refine ⟨_, _, _, op_notN, nomark _, pa, pe_non, fun S own σ H Q R rs hp hR => one_run (R' := fun v H2 => (V.non = .non ∧ R (.bl (!decide (v = .non))) H2)) qa rs hp fun x v H2 s r1 hq => ⟨rfl, ?_⟩⟩
  rw [opt_non r1]
  exact hR _ _ (hq H2 s)
end

/-! ### == of data -/
class Dat (T : Type) [Rp T] where
  toD : T → PyData
  ok : T → Bool
  dp : ∀ {K : PySem.W.Frag} {H : Hp} {v : V} {x : T}, rp K H v x → Dp K H v (toD x)
  lay : ∀ x : T, ok x = true → (toD x).canLay0 = true
  dep : Nat
  depth : ∀ x : T, (toD x).depth ≤ dep
  dec : T → T → Bool
  eqv : ∀ x y : T, PyData.eqv (toD x) (toD y) = dec x y
  iff : ∀ x y : T, dec x y = true ↔ x = y
instance : Dat Int where
  toD := .int
  ok _ := true
  dp h := by cases h; exact .int _
  lay x _ := by simp [PyData.canLay0]
  dep := 0
  depth x := by simp [PyData.depth]
  dec x y := decide (x = y)
  eqv x y := by simp [PyData.eqv]; rfl
  iff x y := by simp
instance : Dat Bool where
  toD := .bool
  ok _ := true
  dp h := by cases h; exact .bl _
  lay x _ := by simp [PyData.canLay0]
  dep := 0
  depth x := by simp [PyData.depth]
  dec x y := decide (x = y)
  eqv x y := by simp [PyData.eqv]; rfl
  iff x y := by simp
instance : Dat Str where
  toD := .str
  ok x := PySem.PyData.strOk x
  dp h := by cases h; exact .str _
  lay x h := by simpa [PyData.canLay0] using h
  dep := 0
  depth x := by simp [PyData.depth]
  dec x y := decide (x = y)
  eqv x y := by simp [PyData.eqv]; rfl
  iff x y := by simp
section
variable {T : Type} [Rp T] [Dat T]
theorem dpAll_of {K : PySem.W.Frag} {H : Hp} : ∀ {vs : List V} {xs : List T}, RpAll K H vs xs → DpAll K H vs (xs.map Dat.toD)
  | _, _, .nil => .nil
  | _, _, .cons r t => .cons (Dat.dp r) (dpAll_of t)
theorem layAll_of : ∀ xs : List T, xs.all Dat.ok = true → PyData.canLayAll0 (xs.map Dat.toD) = true
  | [], _ => by simp [PyData.canLayAll0]
  | x :: xs, h => by
    rw [List.all_cons, Bool.and_eq_true] at h
    simp only [List.map_cons, PyData.canLayAll0, Dat.lay x h.1, layAll_of xs h.2, Bool.and_self]
theorem depAll_of : ∀ xs : List T, PyData.depthAll (xs.map Dat.toD) ≤ Dat.dep T
  | [] => by simp [PyData.depthAll]
  | x :: xs => by
    have h1 := depAll_of xs
    have h2 := Dat.depth x
    simp only [List.map_cons, PyData.depthAll]
    omega
def decAll : List T → List T → Bool
  | [], [] => true
  | x :: xs, y :: ys => Dat.dec x y && decAll xs ys
  | _, _ => false
theorem eqvAll_of : ∀ xs ys : List T, PyData.eqvAll (xs.map Dat.toD) (ys.map Dat.toD) = decAll xs ys
  | [], [] => by simp [PyData.eqvAll, decAll]
  | [], _ :: _ => by simp [PyData.eqvAll, decAll]
  | _ :: _, [] => by simp [PyData.eqvAll, decAll]
  | x :: xs, y :: ys => by simp only [List.map_cons, PyData.eqvAll, decAll, Dat.eqv, eqvAll_of xs ys]
theorem decAll_iff : ∀ xs ys : List T, decAll xs ys = true ↔ xs = ys
  | [], [] => by simp [decAll]
  | [], _ :: _ => by simp [decAll]
  | _ :: _, [] => by simp [decAll]
  | x :: xs, y :: ys => by
    rw [decAll, Bool.and_eq_true, Dat.iff, decAll_iff xs ys, List.cons.injEq]
end
instance {T : Type} [Rp T] [Dat T] : Dat (List T) where
  toD xs := .list (xs.map Dat.toD)
  ok xs := xs.all Dat.ok
  dp h := by
    obtain ⟨a, vs, rfl, e1, e2⟩ := h
    exact .lst (.inl (.inl e1)) (dpAll_of e2)
  lay xs h := by simp only [PyData.canLay0]; exact layAll_of xs h
  dep := Dat.dep T + 1
  depth xs := by
    have := depAll_of xs
    simp only [PyData.depth]
    omega
  dec := decAll
  eqv xs ys := by simp only [PyData.eqv]; exact eqvAll_of xs ys
  iff := decAll_iff
instance {T : Type} [Rp T] [Dat T] : Dat (Tup T) where
  toD xs := .tuple (xs.l.map Dat.toD)
  ok xs := xs.l.all Dat.ok
  dp h := by
    obtain ⟨a, vs, rfl, e1, e2⟩ := h
    exact .tup e1 (dpAll_of e2)
  lay xs h := by simp only [PyData.canLay0]; exact layAll_of xs.l h
  dep := Dat.dep T + 1
  depth xs := by
    have := depAll_of xs.l
    simp only [PyData.depth]
    omega
  dec xs ys := decAll xs.l ys.l
  eqv xs ys := by simp only [PyData.eqv]; exact eqvAll_of xs.l ys.l
  iff xs ys := by
    rw [decAll_iff]
    constructor
    · intro h; cases xs; cases ys; simp_all
    · intro h; rw [h]
instance {A B : Type} [Rp A] [Rp B] [Dat A] [Dat B] : Dat (A × B) where
  toD p := .tuple [Dat.toD p.1, Dat.toD p.2]
  ok p := Dat.ok p.1 && Dat.ok p.2
  dp {K H v x} h := by
    obtain ⟨a, vs, rfl, e1, e2⟩ := h
    obtain ⟨x1, x2⟩ := x
    cases e2 with
    | cons r1 e2 =>
      cases e2 with
      | cons r2 e2 =>
        cases e2
        exact .tup e1 (.cons (Dat.dp r1) (.cons (Dat.dp r2) .nil))
  lay p h := by
    rw [Bool.and_eq_true] at h
    simp only [PyData.canLay0, PyData.canLayAll0, Dat.lay p.1 h.1, Dat.lay p.2 h.2, Bool.and_self]
  dep := max (Dat.dep A) (Dat.dep B) + 1
  depth p := by
    have h1 := Dat.depth p.1
    have h2 := Dat.depth p.2
    simp only [PyData.depth, PyData.depthAll]
    omega
  dec p q := Dat.dec p.1 q.1 && Dat.dec p.2 q.2
  eqv p q := by simp only [PyData.eqv, PyData.eqvAll, Dat.eqv, Bool.and_true]
  iff p q := by
    rw [Bool.and_eq_true, Dat.iff, Dat.iff]
    constructor
    · rintro ⟨h1, h2⟩; exact Prod.ext h1 h2
    · intro h; rw [h]; exact ⟨rfl, rfl⟩
/-- data without texts -/
class DatT (T : Type) [Rp T] [Dat T] : Prop where
  ok : ∀ x : T, Dat.ok x = true
instance : DatT Int := ⟨fun _ => rfl⟩
instance : DatT Bool := ⟨fun _ => rfl⟩
instance {T : Type} [Rp T] [Dat T] [DatT T] : DatT (List T) := ⟨fun xs => List.all_eq_true.mpr fun x _ => DatT.ok x⟩
instance {T : Type} [Rp T] [Dat T] [DatT T] : DatT (Tup T) := ⟨fun xs => List.all_eq_true.mpr fun x _ => DatT.ok x⟩
instance {A B : Type} [Rp A] [Rp B] [Dat A] [Dat B] [DatT A] [DatT B] : DatT (A × B) := ⟨fun p => by
  show (Dat.ok p.1 && Dat.ok p.2) = true
  rw [DatT.ok p.1, DatT.ok p.2]; rfl⟩
theorem dat_shaped {T : Type} [Rp T] [Dat T] (hd : Dat.dep T ≤ 64) (x : T) (h : Dat.ok x = true) : SeqAt.shaped (Dat.toD x) = true := by
  show ((Dat.toD x).canLay0 && decide ((Dat.toD x).depth ≤ 64)) = true
  rw [Dat.lay x h, Bool.true_and]
  exact decide_eq_true (Nat.le_trans (Dat.depth x) hd)
section
variable {T : Type} [Rp T] [Dat T] {X : Cx} {W : WX} {g : Bool} {ρ : List Slot} {a b : Expr} {pos : Pos} {lv : Nat}
def eqD (x y : T) : Res Bool := guardR (Dat.ok x && Dat.ok y) (.ok (Dat.dec x y))
theorem e_eqd {m n : Res T} (C : CtxOk X W lv) (h : EG X W true ρ a m) (h2 : EG X W true ρ b n) (hd : Dat.dep T ≤ 64 := by decide) : CJ X W ρ .Eq a b (m.bind fun x => n.bind fun y => eqD x y) :=
  e_cmpR (f := eqD) (op_eqD C.room.units) (nomark _) h h2 (fun _ _ H x y v u Q r1 r2 hq => by
    obtain ⟨h1, hq⟩ := hq.guard
    rw [Bool.and_eq_true] at h1
    refine ⟨_, _, dp_same hide_sub (Dat.dp r1), dp_same hide_sub (Dat.dp r2), dat_shaped hd x h1.1, dat_shaped hd y h1.2, ?_⟩
    rw [Dat.eqv]
    exact hq)
theorem e_ned {m n : Res T} (C : CtxOk X W lv) (h : EG X W true ρ a m) (h2 : EG X W true ρ b n) (hd : Dat.dep T ≤ 64 := by decide) : CJ X W ρ .NotEq a b (m.bind fun x => n.bind fun y => (eqD x y).bind fun k => .ok (!k)) :=
  e_cmpR (f := fun x y => (eqD x y).bind fun k => .ok (!k)) (op_neD C.room.units) (nomark _) h h2 (fun _ _ H x y v u Q r1 r2 hq => by
    obtain ⟨h1, hq⟩ := hq.bind.guard
    rw [Bool.and_eq_true] at h1
    refine ⟨_, _, dp_same hide_sub (Dat.dp r1), dp_same hide_sub (Dat.dp r2), dat_shaped hd x h1.1, dat_shaped hd y h1.2, ?_⟩
    rw [Dat.eqv]
    exact hq)
theorem eqD_T [DatT T] (x y : T) : eqD x y = .ok (Dat.dec x y) := by
  unfold eqD
  rw [DatT.ok x, DatT.ok y]
  rfl
end
end Py

set_option Elab.async false
set_option linter.all false
set_option maxRecDepth 100000
set_option maxHeartbeats 1000000
/-! Py, part H: rules whose parts are values. -/
namespace Py
open PySem PySem.Spec L2
open Rp (rp)
section
variable {X : Cx} {W : WX} {g : Bool} {ρ : List Slot} {T A B C R : Type} [Rp T] [Rp A] [Rp B] [Rp C] [Rp R] {a b e : Expr} {pos p : Pos} {lv : Nat}
theorem LG.of_eq {m m' : Res (List T)} (h : LG X W ρ e m) (z : m = m') : LG X W ρ e m' := z ▸ h
theorem e_ixp {xs : List T} {i : Int} (ha : LG X W ρ a (.ok xs)) (hb : EG X W true ρ b (.ok i)) (hs : PlainIx b := by exact fun _ _ => rfl) : EG X W g ρ (.Subscript a b pos) (idxM xs i) := e_ix ha hb hs
theorem e_ixtp {xs : Tup T} {i : Int} (ha : EG X W g ρ a (.ok xs)) (hb : EG X W true ρ b (.ok i)) (hs : PlainIx b := by exact fun _ _ => rfl) : EG X W g ρ (.Subscript a b pos) (idxM xs.l i) := e_ixt ha hb hs
theorem e_ixscrp {z : Scr} {i : Int} (ha : EG X W true ρ a (.ok z)) (hb : EG X W true ρ b (.ok i)) (hs : PlainIx b := by exact fun _ _ => rfl) : EG X W g ρ (.Subscript a b pos) (idxM z.ns i) := e_ixscr ha hb hs
theorem e_plp {A : Type} [Places A] {j : Nat} {f : A → T} {x : A} {c} {p2 : Pos} (ha : EG X W g ρ a (.ok x)) (hf : ∀ x, (Places.av x)[j]? = some (av (f x)) := by intro _; rfl) : EG X W g ρ (.Subscript a (.Constant (.int (j : Int)) c p2) pos) (.ok (f x)) := e_pl ha hf
theorem o_somep {i : Int} (h : EG X W true ρ e (.ok i)) : OG X W ρ (some e) (.ok (some i)) := o_some h
theorem f_slicep {xs : List T} {l h : Option Int} {lo hi : Option Expr} {p2 : Pos} (ha : LG X W ρ e (.ok xs)) (hl : OG X W ρ lo (.ok l)) (hh : OG X W ρ hi (.ok h)) : FG X W ρ (.Subscript e (.Slice lo hi none p2) pos) (.ok (cut xs l h)) := f_slice ha hl hh
theorem e_lenl {xs : List T} (ha : LG X W ρ a (.ok xs)) (hm : X.mg "len" = none) (hg : Gl X "len" := by rfl)
    (he : starEach [a] X.env = (false, eval a X.env) :: starEach [] X.env := by rfl) (hpl : (backTo pos (starEach [] X.env)).any (·.1) = false := by rfl) : EG X W g ρ (.Call (.Name "len" p) [a] [] pos) (.ok (xs.length : Int)) := by
  obtain ⟨ta, pa, qa⟩ := ha.ex
  refine ⟨_, pe_callB call_len hg hm (by decide +kernel) (pa_cons pa pa_nil he) (by decide) (by decide) he hpl, fun S own σ H Q rs h => qa S own σ H _ rs fun H' a vs s e1 e2 => ?_⟩
  exact ⟨.ref a, xs.length, rfl, .inl ⟨vs, .inl (.inl e1), e2.length.symm⟩, h H' _ s rfl⟩
theorem e_lenp [Len A] {x : A} (ha : EG X W true ρ a (.ok x)) (hm : X.mg "len" = none) (hg : Gl X "len" := by rfl)
    (he : starEach [a] X.env = (false, eval a X.env) :: starEach [] X.env := by rfl) (hpl : (backTo pos (starEach [] X.env)).any (·.1) = false := by rfl) : EG X W g ρ (.Call (.Name "len" p) [a] [] pos) (Len.len x) := e_len ha hm hg he hpl
theorem e_lent {x : Tup T} (ha : EG X W true ρ a (.ok x)) (hm : X.mg "len" = none) (hg : Gl X "len" := by rfl)
    (he : starEach [a] X.env = (false, eval a X.env) :: starEach [] X.env := by rfl) (hpl : (backTo pos (starEach [] X.env)).any (·.1) = false := by rfl) : EG X W g ρ (.Call (.Name "len" p) [a] [] pos) (.ok (x.l.length : Int)) := e_len ha hm hg he hpl
theorem e_lenscr {x : Scr} (ha : EG X W true ρ a (.ok x)) (hm : X.mg "len" = none) (hg : Gl X "len" := by rfl)
    (he : starEach [a] X.env = (false, eval a X.env) :: starEach [] X.env := by rfl) (hpl : (backTo pos (starEach [] X.env)).any (·.1) = false := by rfl) : EG X W g ρ (.Call (.Name "len" p) [a] [] pos) (.ok (x.ns.length : Int)) := e_len ha hm hg he hpl
theorem e_int1p {x : Int} (ha : EG X W true ρ a (.ok x)) (hm : X.mg "int" = none) (hg : Gl X "int" := by rfl)
    (he : starEach [a] X.env = (false, eval a X.env) :: starEach [] X.env := by rfl) (hpl : (backTo pos (starEach [] X.env)).any (·.1) = false := by rfl) : EG X W g ρ (.Call (.Name "int" p) [a] [] pos) (.ok x) := e_int1 ha hm hg he hpl
theorem e_int1m {m : Res Int} (ha : EG X W true ρ a m) (hm : X.mg "int" = none) (hg : Gl X "int" := by rfl)
    (he : starEach [a] X.env = (false, eval a X.env) :: starEach [] X.env := by rfl) (hpl : (backTo pos (starEach [] X.env)).any (·.1) = false := by rfl) : EG X W g ρ (.Call (.Name "int" p) [a] [] pos) m := (e_int1 ha hm hg he hpl).of_eq (by cases m <;> rfl)
theorem e_absp {x : Int} (ha : EG X W true ρ a (.ok x)) (hm : X.mg "abs" = none) (hg : Gl X "abs" := by rfl)
    (he : starEach [a] X.env = (false, eval a X.env) :: starEach [] X.env := by rfl) (hpl : (backTo pos (starEach [] X.env)).any (·.1) = false := by rfl) : EG X W g ρ (.Call (.Name "abs" p) [a] [] pos) (.ok (x.natAbs : Int)) := e_abs ha hm hg he hpl
theorem e_sump {xs : List Int} (hc : X.calm = true) (ha : LG X W ρ a (.ok xs)) (hm : X.mg "sum" = none) (hg : Gl X "sum" := by rfl)
    (he : starEach [a] X.env = (false, eval a X.env) :: starEach [] X.env := by rfl) (hpl : (backTo pos (starEach [] X.env)).any (·.1) = false := by rfl) : EG X W g ρ (.Call (.Name "sum" p) [a] [] pos) (.ok xs.sum) := e_sum hc ha hm hg he hpl
theorem e_max2p {x y : Int} (hc : X.calm = true) (ha : EG X W true ρ a (.ok x)) (hb : EG X W true ρ b (.ok y)) (hm : X.mg "max" = none) (hg : Gl X "max" := by rfl)
    (he : starEach [a, b] X.env = (false, eval a X.env) :: starEach [b] X.env := by rfl) (he2 : starEach [b] X.env = (false, eval b X.env) :: starEach [] X.env := by rfl) (hpl : (backTo pos (starEach [b] X.env)).any (·.1) = false := by rfl) :
    EG X W g ρ (.Call (.Name "max" p) [a, b] [] pos) (.ok (if y > x then y else x)) := e_max2 hc ha hb hm hg he he2 hpl
theorem e_min2p {x y : Int} (hc : X.calm = true) (ha : EG X W true ρ a (.ok x)) (hb : EG X W true ρ b (.ok y)) (hm : X.mg "min" = none) (hg : Gl X "min" := by rfl)
    (he : starEach [a, b] X.env = (false, eval a X.env) :: starEach [b] X.env := by rfl) (he2 : starEach [b] X.env = (false, eval b X.env) :: starEach [] X.env := by rfl) (hpl : (backTo pos (starEach [b] X.env)).any (·.1) = false := by rfl) :
    EG X W g ρ (.Call (.Name "min" p) [a, b] [] pos) (.ok (if y < x then y else x)) := e_min2 hc ha hb hm hg he he2 hpl
theorem e_gcdp {x : Str} {u v : Int} (ha : EG X W true ρ a (.ok u)) (hb : EG X W true ρ b (.ok v)) (hm : X.mg x = some (.builtin "math.gcd")) (hg : Gl X x := by rfl) (hdb : (x == ("__debug__" : Str)) = false := by decide)
    (he : starEach [a, b] X.env = (false, eval a X.env) :: starEach [b] X.env := by rfl) (he2 : starEach [b] X.env = (false, eval b X.env) :: starEach [] X.env := by rfl) (hpl : (backTo pos (starEach [b] X.env)).any (·.1) = false := by rfl) :
    EG X W g ρ (.Call (.Name x p) [a, b] [] pos) (.ok ((Nat.gcd u.natAbs v.natAbs : Nat) : Int)) := e_gcd ha hb hm hg hdb he he2 hpl
theorem f_listofp {xs : List T} (ha : LG X W ρ a (.ok xs)) (hm : X.mg "list" = none) (hg : Gl X "list" := by rfl)
    (he : starEach [a] X.env = (false, eval a X.env) :: starEach [] X.env := by rfl) (hpl : (backTo pos (starEach [] X.env)).any (·.1) = false := by rfl) : FG X W ρ (.Call (.Name "list" p) [a] [] pos) (.ok xs) := f_listof ha hm hg he hpl
theorem f_listoftp {xs : Tup T} (ha : EG X W true ρ a (.ok xs)) (hm : X.mg "list" = none) (hg : Gl X "list" := by rfl)
    (he : starEach [a] X.env = (false, eval a X.env) :: starEach [] X.env := by rfl) (hpl : (backTo pos (starEach [] X.env)).any (·.1) = false := by rfl) : FG X W ρ (.Call (.Name "list" p) [a] [] pos) (.ok xs.l) := f_listoft ha hm hg he hpl
theorem e_tupofp {xs : List T} (ha : LG X W ρ a (.ok xs)) (hm : X.mg "tuple" = none) (hg : Gl X "tuple" := by rfl)
    (he : starEach [a] X.env = (false, eval a X.env) :: starEach [] X.env := by rfl) (hpl : (backTo pos (starEach [] X.env)).any (·.1) = false := by rfl) : EG X W g ρ (.Call (.Name "tuple" p) [a] [] pos) (.ok (⟨xs⟩ : Tup T)) := e_tupof ha hm hg he hpl
def catM {α : Type} (xs ys : List α) : Res (List α) := guardR (decide (xs.length + ys.length ≤ sizeLine)) (.ok (xs ++ ys))
theorem f_catp {xs ys : List T} (ha : LG X W ρ a (.ok xs)) (hb : LG X W ρ b (.ok ys)) : FG X W ρ (.BinOp a .Add b pos) (catM xs ys) := f_cat ha hb
theorem f_catm {ma mb : Res (List T)} (ha : LG X W ρ a ma) (hb : LG X W ρ b mb) : FG X W ρ (.BinOp a .Add b pos) (ma.bind fun xs => mb.bind fun ys => catM xs ys) := f_cat ha hb
theorem f_repp {xs : List T} {k : Int} (ha : LG X W ρ a (.ok xs)) (hb : EG X W true ρ b (.ok k)) : FG X W ρ (.BinOp a .Mult b pos) (repM xs k) := f_rep ha hb
theorem e_isip [Ty T] {x : T} {c : String} {n : Str} {p2 : Pos} {f : T → Bool} (h : EG X W true ρ a (.ok x)) (hm : X.mg "isinstance" = none) (hm2 : X.mg n = none) (hk : ∀ x : T, kitB (Ty.ty x) c = some (f x) := by intro _; decide +kernel) (hv : bootBuiltins n = some (.type c) := by decide +kernel)
    (hg : Gl X "isinstance" := by rfl) (hg2 : Gl X n := by rfl) (hn : n ≠ "__name__" := by decide) (hdb : (n == ("__debug__" : Str)) = false := by decide)
    (he : starEach [a, .Name n p2] X.env = (false, eval a X.env) :: starEach [.Name n p2] X.env := by rfl) (he2 : starEach [.Name n p2] X.env = (false, eval (.Name n p2) X.env) :: starEach [] X.env := by rfl) (hpl : (backTo pos (starEach [.Name n p2] X.env)).any (·.1) = false := by rfl) :
    EG X W g ρ (.Call (.Name "isinstance" p) [a, .Name n p2] [] pos) (.ok (f x)) := e_isi h hm hm2 hk hv hg hg2 hn hdb he he2 hpl
theorem e_isBp {x y : Bool} (h : EG X W true ρ a (.ok x)) (h2 : EG X W true ρ b (.ok y)) : CJ X W ρ .Is a b (.ok (decide (x = y))) := e_isB h h2
theorem e_isnotBp {x y : Bool} (h : EG X W true ρ a (.ok x)) (h2 : EG X W true ρ b (.ok y)) : CJ X W ρ .IsNot a b (.ok (!decide (x = y))) := e_isnotB h h2
theorem e_isNp {x : Option T} {j p2} (h : EG X W true ρ a (.ok x)) : CJ X W ρ .Is a (.Constant .none j p2) (.ok x.isNone) := e_isN h
theorem e_isnotNp {x : Option T} {j p2} (h : EG X W true ρ a (.ok x)) : CJ X W ρ .IsNot a (.Constant .none j p2) (.ok (!x.isNone)) := e_isnotN h
theorem e_eqdp [Dat T] {x y : T} (C : CtxOk X W lv) (h : EG X W true ρ a (.ok x)) (h2 : EG X W true ρ b (.ok y)) (hd : Dat.dep T ≤ 64 := by decide) : CJ X W ρ .Eq a b (eqD x y) := e_eqd C h h2 hd
theorem e_eqdT [Dat T] [DatT T] {x y : T} (C : CtxOk X W lv) (h : EG X W true ρ a (.ok x)) (h2 : EG X W true ρ b (.ok y)) (hd : Dat.dep T ≤ 64 := by decide) : CJ X W ρ .Eq a b (.ok (Dat.dec x y)) := (e_eqd C h h2 hd).of_eq (eqD_T x y)
theorem e_nedT [Dat T] [DatT T] {x y : T} (C : CtxOk X W lv) (h : EG X W true ρ a (.ok x)) (h2 : EG X W true ρ b (.ok y)) (hd : Dat.dep T ≤ 64 := by decide) : CJ X W ρ .NotEq a b (.ok (!Dat.dec x y)) := (e_ned C h h2 hd).of_eq (show (eqD x y).bind _ = _ by rw [eqD_T]; rfl)
theorem e_eqdm [Dat T] [DatT T] {m n : Res T} (C : CtxOk X W lv) (h : EG X W true ρ a m) (h2 : EG X W true ρ b n) (hd : Dat.dep T ≤ 64 := by decide) : CJ X W ρ .Eq a b (m.bind fun x => n.bind fun y => .ok (Dat.dec x y)) := (e_eqd C h h2 hd).of_eq (by
  congr 1; funext x; congr 1; funext y; exact eqD_T x y)
theorem e_nedm [Dat T] [DatT T] {m n : Res T} (C : CtxOk X W lv) (h : EG X W true ρ a m) (h2 : EG X W true ρ b n) (hd : Dat.dep T ≤ 64 := by decide) : CJ X W ρ .NotEq a b (m.bind fun x => n.bind fun y => .ok (!Dat.dec x y)) := (e_ned C h h2 hd).of_eq (by
  congr 1; funext x; congr 1; funext y; rw [eqD_T]; rfl)
end
section
variable {X : Cx} {W : WX} {g : Bool} {ρ : List Slot} {T A : Type} [Rp T] [Rp A] {a e tg : Expr} {pos p : Pos} {lv : Nat}
theorem i_range1p {j : Int} (h : EG X W true ρ a (.ok j)) (hm : X.mg "range" = none) (hg : Gl X "range" := by rfl) (hs : starEach [a] X.env = [(false, eval a X.env)] := by rfl) (he : starEach (a :: []) X.env = (false, eval a X.env) :: starEach [] X.env := by rfl) :
    IJ X W ρ tg (.Call (.Name "range" p) [a] [] pos) (guardR (inRange j) (.ok (rng 0 j))) := i_range1 h hm hg hs he
theorem i_range2p {c : Expr} {i j : Int} (h : EG X W true ρ a (.ok i)) (h2 : EG X W true ρ c (.ok j)) (hm : X.mg "range" = none) (hg : Gl X "range" := by rfl) (hs : starEach [a, c] X.env = [(false, eval a X.env), (false, eval c X.env)] := by rfl) (hs2 : starEach [c] X.env = [(false, eval c X.env)] := by rfl)
    (he : starEach (a :: [c]) X.env = (false, eval a X.env) :: starEach [c] X.env := by rfl) (he2 : starEach (c :: []) X.env = (false, eval c X.env) :: starEach [] X.env := by rfl) :
    IJ X W ρ tg (.Call (.Name "range" p) [a, c] [] pos) (guardR (inRange i && inRange j) (.ok (rng i j))) := i_range2 h h2 hm hg hs hs2 he he2
theorem i_enump {xs : List T} {elts : List Expr} {kk : Nat} {tpos : Pos} (h : EG X W true ρ a (.ok xs)) (hm : X.mg "enumerate" = none) (hg : Gl X "enumerate" := by rfl) (hs : starEach [a] X.env = [(false, eval a X.env)] := by rfl) (he : starEach (a :: []) X.env = (false, eval a X.env) :: starEach [] X.env := by rfl) :
    IJ X W ρ (.Tuple elts kk tpos) (.Call (.Name "enumerate" p) [a] [] pos) (.ok (enumL xs)) := i_enum h hm hg hs he
theorem i_zipp {c : Expr} {xs : List T} {ys : List A} {elts : List Expr} {kk : Nat} {tpos : Pos} (h : EG X W true ρ a (.ok xs)) (h2 : EG X W true ρ c (.ok ys)) (hm : X.mg "zip" = none) (hg : Gl X "zip" := by rfl)
    (he : starEach (a :: [c]) X.env = (false, eval a X.env) :: starEach [c] X.env := by rfl) (he2 : starEach (c :: []) X.env = (false, eval c X.env) :: starEach [] X.env := by rfl) (hpl : (backTo pos (starEach [c] X.env)).any (·.1) = false := by rfl) :
    IJ X W ρ (.Tuple elts kk tpos) (.Call (.Name "zip" p) [a, c] [] pos) (.ok (xs.zip ys)) := i_zip h h2 hm hg he he2 hpl
theorem i_tupp {xs : Tup T} (h : EG X W true ρ e (.ok xs)) : IJ X W ρ tg e (.ok xs.l) := i_tup h
theorem i_strp {z : Str} (h : EG X W true ρ e (.ok z)) : IJ X W ρ tg e (.ok (signs z)) := i_str h
end
end Py

set_option Elab.async false
set_option linter.all false
set_option maxRecDepth 100000
set_option maxHeartbeats 1000000
/-! Py, part I: shapes that the generator prints. -/
namespace Py
open PySem PySem.Spec L2
open Rp (rp)
section
variable {S₁ S₂ B R T A : Type} [Rp T] [Rp A] {X : Cx} {W : WX} {g : Bool} {ρe : Option (List Slot)} {ρ ρ' : List Slot} {st : Stmt} {rest sts sa sb : List Stmt} {n n1 : S₁ → List Slot} {n2 : S₂ → List Slot} {b : B → List Slot} {Z : Rt R} {e a c : Expr} {pos : Pos} {lv : Nat}
theorem b_at {m : Res S₁} (ρ' : List Slot) (h : SN X W ρe ρ' sts n m) (e : ρ = ρ' := by rfl) : SN X W ρe ρ sts n m := e ▸ h
theorem r_at {m : Res R} (ρ' : List Slot) (h : SR X W ρe ρ' sts Z m) (e : ρ = ρ' := by rfl) : SR X W ρe ρ sts Z m := e ▸ h
theorem c_at {m : Res (Ctl S₁ B R)} (ρ' : List Slot) (h : SC X W ρe ρ' sts n b Z m) (e : ρ = ρ' := by rfl) : SC X W ρe ρ sts n b Z m := e ▸ h
theorem e_at {m : Res T} (ρ' : List Slot) (h : EG X W g ρ' e m) (z : ρ = ρ' := by rfl) : EG X W g ρ e m := z ▸ h
theorem t_at {m : Res Bool} (ρ' : List Slot) (h : TJ X W ρ' e m) (z : ρ = ρ' := by rfl) : TJ X W ρ e m := z ▸ h
theorem n_ifp {p : Bool} {ma mb : Res S₁} (hc : TJ X W ρ c (.ok p)) (h1 : SN X W ρe ρ sa n ma) (h2 : SN X W ρe ρ sb n mb) (w : WkO ρ ρe := by first | exact True.intro | (repeat (first | exact Wk.nil | refine Wk.s ?_ | refine Wk.n ?_))) : N1 X W ρe ρ (.If c sa sb pos) n (if p then ma else mb) := n_if hc h1 h2 w
theorem c_ifp {p : Bool} {ma mb : Res (Ctl S₁ B R)} (hc : TJ X W ρ c (.ok p)) (h1 : SC X W ρe ρ sa n b Z ma) (h2 : SC X W ρe ρ sb n b Z mb) (w : WkO ρ ρe := by first | exact True.intro | (repeat (first | exact Wk.nil | refine Wk.s ?_ | refine Wk.n ?_))) : C1 X W ρe ρ (.If c sa sb pos) n b Z (if p then ma else mb) := c_if hc h1 h2 w
theorem r_ifp {p : Bool} {ma mb : Res R} (hc : TJ X W ρ c (.ok p)) (h1 : SR X W ρe ρ sa Z ma) (h2 : SR X W ρe ρ rest Z mb) (w : WkO ρ ρe := by first | exact True.intro | (repeat (first | exact Wk.nil | refine Wk.s ?_ | refine Wk.n ?_))) : SR X W ρe ρ (.If c sa [] pos :: rest) Z (if p then ma else mb) := r_if hc h1 h2 w
theorem r_if2p {p : Bool} {ma mb : Res R} (hc : TJ X W ρ c (.ok p)) (h1 : SR X W ρe ρ sa Z ma) (h2 : SR X W ρe ρ sb Z mb) (w : WkO ρ ρe := by first | exact True.intro | (repeat (first | exact Wk.nil | refine Wk.s ?_ | refine Wk.n ?_))) : SR X W ρe ρ (.If c sa sb pos :: rest) Z (if p then ma else mb) := r_if2 hc h1 h2 w
def liftC {S B R : Type} (m : Res (Ctl Empty B R)) : Res (Ctl S B R) := m.bind fun
  | .nx z => nomatch z
  | .rt r => .ok (.rt r)
  | .bk x => .ok (.bk x)
  | .ct x => .ok (.ct x)
def eb : Empty → List Slot := fun z => nomatch z
/-- if that jumps or returns on its yes, then the rest -/
theorem c_if1 {mc : Res Bool} {ma : Res (Ctl Empty B R)} {mb : Res (Ctl S₁ B R)} (hc : TJ X W ρ c mc) (h1 : SC X W ρe ρ sa eb b Z ma) (h2 : SC X W ρe ρ rest n b Z mb) (w : WkO ρ ρe := by first | exact True.intro | (repeat (first | exact Wk.nil | refine Wk.s ?_ | refine Wk.n ?_))) : SC X W ρe ρ (.If c sa [] pos :: rest) n b Z (mc.bind fun k => if k then liftC ma else mb) := by
  obtain ⟨tc, pc, qc⟩ := hc.ex
  obtain ⟨ta, pa, qa⟩ := h1.ex
  obtain ⟨tb, pb, qb⟩ := h2.ex
  refine ⟨_, pss_cons (ps_if pc pa pss_nil) pb, fun S own σ H D rs h => if_run (c := c) qc rs w h fun k H' s hk => ?_⟩
  cases k with
  | true =>
    rw [if_pos rfl]
    refine qa S own σ H' _ (rs.mono s) ((show Post (ma.bind _) _ _ from hk).bind.imp (fun z hz => ?_) fun _ z => z.mono (Ext.of_same s))
    cases z with
    | nx z => exact nomatch z
    | rt r => exact RtP.mono hz (Ext.of_same s)
    | bk x => exact NxP.mono hz (Ext.of_same s)
    | ct x => exact NxP.mono hz (Ext.of_same s)
  | false => rw [if_neg Bool.false_ne_true]; exact qb S own σ H' D (rs.mono s) (Post.imp (show Post mb _ _ from hk) (fun _ z => CtlP.mono z (Ext.of_same s)) fun _ z => z.mono (Ext.of_same s))
theorem c_if1p {p : Bool} {ma : Res (Ctl Empty B R)} {mb : Res (Ctl S₁ B R)} (hc : TJ X W ρ c (.ok p)) (h1 : SC X W ρe ρ sa eb b Z ma) (h2 : SC X W ρe ρ rest n b Z mb) (w : WkO ρ ρe := by first | exact True.intro | (repeat (first | exact Wk.nil | refine Wk.s ?_ | refine Wk.n ?_))) : SC X W ρe ρ (.If c sa [] pos :: rest) n b Z (if p then liftC ma else mb) := c_if1 hc h1 h2 w
/-- a return within a loop -/
theorem SR.cp {r : R} (h : SR X W ρe ρ sts Z (.ok r)) : SC X W ρe ρ sts n b Z (.ok (.rt r)) := SR.c h
theorem SN.cp {r : S₁} (h : SN X W ρe ρ sts n (.ok r)) : SC X W ρe ρ sts n b Z (.ok (.nx r)) := SN.c h
/-- a value that is known is put in at once -/
theorem r_consp {v : S₂} {m2 : Res R} (h1 : N1 X W ρe ρ st n2 (.ok v)) (h2 : SR X W ρe (n2 v) rest Z m2) : SR X W ρe ρ (st :: rest) Z m2 := by
  obtain ⟨t1, p1, q1⟩ := h1.ex
  obtain ⟨t2, p2, q2⟩ := h2.ex
  exact ⟨_, pss_cons p1 p2, fun S own σ H D rs h => q1 S own σ H _ rs fun σ1 H1 own1 x1 r1 => q2 S own1 σ1 H1 D r1 (Post.imp h (fun _ z => z.mono x1) fun _ z => z.mono x1)⟩
theorem b_consp {v : S₂} {m2 : Res S₁} (h1 : N1 X W ρe ρ st n2 (.ok v)) (h2 : SN X W ρe (n2 v) rest n m2) : SN X W ρe ρ (st :: rest) n m2 := by
  obtain ⟨t1, p1, q1⟩ := h1.ex
  obtain ⟨t2, p2, q2⟩ := h2.ex
  exact ⟨_, pss_cons p1 p2, fun S own σ H D rs h => q1 S own σ H _ rs fun σ1 H1 own1 x1 r1 => q2 S own1 σ1 H1 D r1 (Post.imp h (fun _ z => z.mono x1) fun _ z => z.mono x1)⟩
theorem c_consp {v : S₂} {m2 : Res (Ctl S₁ B R)} (h1 : N1 X W ρe ρ st n2 (.ok v)) (h2 : SC X W ρe (n2 v) rest n b Z m2) : SC X W ρe ρ (st :: rest) n b Z m2 := by
  obtain ⟨t1, p1, q1⟩ := h1.ex
  obtain ⟨t2, p2, q2⟩ := h2.ex
  exact ⟨_, pss_cons p1 p2, fun S own σ H D rs h => q1 S own σ H _ rs fun σ1 H1 own1 x1 r1 => q2 S own1 σ1 H1 D r1 (Post.imp h (fun _ z => CtlP.mono z x1) fun _ z => z.mono x1)⟩
/-! ### truth of lists -/
theorem t_list {m : Res (List T)} (h : LG X W ρ e m) (he : ∀ whole, isTrue e X.env whole = (do let v ← whole; standAt e.pos; holding [v] (truthy v)) := by intro _; rfl) : TJ X W ρ e (m.bind fun xs => .ok (!xs.isEmpty)) := by
  obtain ⟨t, p, q⟩ := h.ex
  refine ⟨_, pt_truth p he, fun S own σ H Q rs hp => q S own σ H _ rs (hp.bind.imp (fun xs hx H' a vs s e1 e2 => ⟨!xs.isEmpty, .inl ⟨vs, .inl (.inl e1), ?_⟩, hx H' s⟩) fun _ z => z)⟩
  have := e2.length
  cases vs <;> cases xs <;> simp at this <;> rfl
theorem t_listp {xs : List T} (h : LG X W ρ e (.ok xs)) (he : ∀ whole, isTrue e X.env whole = (do let v ← whole; standAt e.pos; holding [v] (truthy v)) := by intro _; rfl) : TJ X W ρ e (.ok (!xs.isEmpty)) := t_list h he
theorem t_tup {m : Res (Tup T)} (h : EG X W true ρ e m) (he : ∀ whole, isTrue e X.env whole = (do let v ← whole; standAt e.pos; holding [v] (truthy v)) := by intro _; rfl) : TJ X W ρ e (m.bind fun xs => .ok (!xs.l.isEmpty)) := by
  obtain ⟨t, p, q⟩ := h.ex
  refine ⟨_, pt_truth p he, fun S own σ H Q rs hp => q S own σ H _ rs (hp.bind.imp (fun xs hx H' v s r => ?_) fun _ z => z)⟩
  obtain ⟨a, vs, rfl, e1, e2⟩ := r
  refine ⟨!xs.l.isEmpty, .inr (.inl ⟨vs, SqT.same hide_sub e1, ?_⟩), hx H' s⟩
  have := e2.length
  cases vs <;> cases hh : xs.l <;> rw [hh] at this <;> simp at this <;> rfl
theorem e_eqdB [Dat T] [DatT T] {m n : Res T} (C : CtxOk X W lv) (h : EG X W false ρ a m) (h2 : EG X W false ρ e n) (hd : Dat.dep T ≤ 64 := by decide) : CJ X W ρ .Eq a e (m.bind fun x => n.bind fun y => .ok (Dat.dec x y)) := by
  refine (e_cmpR (f := eqD) (op_eqD C.room.units) (nomark _) h h2 (fun _ _ H x y v u Q r1 r2 hq => ?_)).of_eq (by congr 1; funext x; congr 1; funext y; exact eqD_T x y)
  rw [eqD_T] at hq
  refine ⟨_, _, dp_same hide_sub (Dat.dp r1), dp_same hide_sub (Dat.dp r2), dat_shaped hd x (DatT.ok x), dat_shaped hd y (DatT.ok y), ?_⟩
  rw [Dat.eqv]
  exact hq
theorem e_nedB [Dat T] [DatT T] {m n : Res T} (C : CtxOk X W lv) (h : EG X W false ρ a m) (h2 : EG X W false ρ e n) (hd : Dat.dep T ≤ 64 := by decide) : CJ X W ρ .NotEq a e (m.bind fun x => n.bind fun y => .ok (!Dat.dec x y)) := by
  refine (e_cmpR (f := fun x y => (eqD x y).bind fun k => .ok (!k)) (op_neD C.room.units) (nomark _) h h2 (fun _ _ H x y v u Q r1 r2 hq => ?_)).of_eq (by congr 1; funext x; congr 1; funext y; rw [eqD_T]; rfl)
  rw [eqD_T] at hq
  refine ⟨_, _, dp_same hide_sub (Dat.dp r1), dp_same hide_sub (Dat.dp r2), dat_shaped hd x (DatT.ok x), dat_shaped hd y (DatT.ok y), ?_⟩
  rw [Dat.eqv]
  exact hq
/-! ### the law's end -/
theorem law_sp {K : PySem.W.Frag} {f : Scr × Unit → Res Bool} {H : Hp} {a : Addr} {ns : List Int} (h : f (⟨ns⟩, ()) = .ok true) (hS : SqL K H a (ns.map V.int)) : spOf K (asC asN) f [.ref a] H (fun v _ => v = .bl true) fun _ _ _ => False := by
  refine ⟨[], (⟨ns⟩, ()), (fun _ z => nomatch z), .cons ⟨a, rfl, ?_⟩ .nil, ?_⟩
  · rw [hide_nil]; exact hS
  · rw [h]
    exact fun H' v s r => r
end
end Py

set_option Elab.async false
set_option linter.all false
set_option maxRecDepth 100000
set_option maxHeartbeats 1000000
/-! Py, part J: data of any kind; a def that calls itself. -/
namespace Py
open PySem PySem.Spec L2
open Rp (rp)

/-- a value of any kind, as data -/
structure PD where
  d : PyData
instance : Rp PD where
  rp K H v x := Dp K H v x.d
  mono s h := dp_same s h
def tyD : PyData → String
  | .none => "NoneType" | .bool _ => "bool" | .int _ => "int" | .str _ => "str" | .list _ => "list" | .tuple _ => "tuple" | .dict _ => "dict"
instance : Ty PD := ⟨fun x => tyD x.d, fun {K B H v x} h => by
  obtain ⟨d⟩ := x
  cases h with
  | non => exact .base .non
  | bl b => exact .base (.bl _)
  | int i => exact .base (.int _)
  | str x => exact .base (.str _)
  | lst h r => exact tyx_lst (hide_sub.seq h)
  | tup h r => exact tyx_tup (SqT.same hide_sub h)⟩
def isTup : PD → Bool | ⟨.tuple _⟩ => true | _ => false
def isLst : PD → Bool | ⟨.list _⟩ => true | _ => false
def isBl : PD → Bool | ⟨.bool _⟩ => true | _ => false
def isInt : PD → Bool | ⟨.int _⟩ => true | ⟨.bool _⟩ => true | _ => false
def isStr : PD → Bool | ⟨.str _⟩ => true | _ => false
theorem isTup_ok (x : PD) : kitB (Ty.ty x) "tuple" = some (isTup x) := by
  obtain ⟨d⟩ := x
  cases d <;> first | exact (by decide +kernel : kitB "NoneType" "tuple" = some false) | exact (by decide +kernel : kitB "bool" "tuple" = some false) | exact (by decide +kernel : kitB "int" "tuple" = some false) | exact (by decide +kernel : kitB "str" "tuple" = some false) | exact (by decide +kernel : kitB "list" "tuple" = some false) | exact (by decide +kernel : kitB "tuple" "tuple" = some true) | exact (by decide +kernel : kitB "dict" "tuple" = some false)
theorem isLst_ok (x : PD) : kitB (Ty.ty x) "list" = some (isLst x) := by
  obtain ⟨d⟩ := x
  cases d <;> first | exact (by decide +kernel : kitB "NoneType" "list" = some false) | exact (by decide +kernel : kitB "bool" "list" = some false) | exact (by decide +kernel : kitB "int" "list" = some false) | exact (by decide +kernel : kitB "str" "list" = some false) | exact (by decide +kernel : kitB "list" "list" = some true) | exact (by decide +kernel : kitB "tuple" "list" = some false) | exact (by decide +kernel : kitB "dict" "list" = some false)
theorem isBl_ok (x : PD) : kitB (Ty.ty x) "bool" = some (isBl x) := by
  obtain ⟨d⟩ := x
  cases d <;> first | exact (by decide +kernel : kitB "NoneType" "bool" = some false) | exact (by decide +kernel : kitB "bool" "bool" = some true) | exact (by decide +kernel : kitB "int" "bool" = some false) | exact (by decide +kernel : kitB "str" "bool" = some false) | exact (by decide +kernel : kitB "list" "bool" = some false) | exact (by decide +kernel : kitB "tuple" "bool" = some false) | exact (by decide +kernel : kitB "dict" "bool" = some false)
theorem isInt_ok (x : PD) : kitB (Ty.ty x) "int" = some (isInt x) := by
  obtain ⟨d⟩ := x
  cases d <;> first | exact (by decide +kernel : kitB "NoneType" "int" = some false) | exact (by decide +kernel : kitB "bool" "int" = some true) | exact (by decide +kernel : kitB "int" "int" = some true) | exact (by decide +kernel : kitB "str" "int" = some false) | exact (by decide +kernel : kitB "list" "int" = some false) | exact (by decide +kernel : kitB "tuple" "int" = some false) | exact (by decide +kernel : kitB "dict" "int" = some false)
theorem isStr_ok (x : PD) : kitB (Ty.ty x) "str" = some (isStr x) := by
  obtain ⟨d⟩ := x
  cases d <;> first | exact (by decide +kernel : kitB "NoneType" "str" = some false) | exact (by decide +kernel : kitB "bool" "str" = some false) | exact (by decide +kernel : kitB "int" "str" = some false) | exact (by decide +kernel : kitB "str" "str" = some true) | exact (by decide +kernel : kitB "list" "str" = some false) | exact (by decide +kernel : kitB "tuple" "str" = some false) | exact (by decide +kernel : kitB "dict" "str" = some false)
theorem dpAll_length {K : PySem.W.Frag} {H : Hp} : ∀ {vs : List V} {ds : List PyData}, DpAll K H vs ds → vs.length = ds.length
  | _, _, .nil => rfl
  | _, _, .cons _ r => by rw [List.length_cons, List.length_cons, dpAll_length r]
theorem dpAll_get {K : PySem.W.Frag} {H : Hp} : ∀ {vs : List V} {ds : List PyData} {i : Nat} {d : PyData}, DpAll K H vs ds → ds[i]? = some d → ∃ v, vs[i]? = some v ∧ Dp K H v d
  | _, _, 0, _, .cons r _, e => by cases e; exact ⟨_, rfl, r⟩
  | _, _, i + 1, _, .cons _ t, e => dpAll_get (i := i) t e
  | _, _, 0, _, .nil, e => by cases e
  | _, _, i + 1, _, .nil, e => by cases e
def lenD : PD → Res Int
  | ⟨.list xs⟩ => .ok (xs.length : Int)
  | ⟨.tuple xs⟩ => .ok (xs.length : Int)
  | _ => .bad
instance : Len PD where
  len := lenD
  ok {K B H v x Q} r h := by
    obtain ⟨d⟩ := x
    cases r with
    | lst r1 r2 => exact ⟨_, .inl ⟨_, hide_sub.seq r1, rfl⟩, by rw [dpAll_length r2]; exact h⟩
    | tup r1 r2 => exact ⟨_, .inr ⟨_, SqT.same hide_sub r1, rfl⟩, by rw [dpAll_length r2]; exact h⟩
    | _ => exact h.elim
def idxD (x : PD) (i : Int) : Res PD := match x with
  | ⟨.list xs⟩ => (idxM xs i).bind fun d => .ok ⟨d⟩
  | ⟨.tuple xs⟩ => (idxM xs i).bind fun d => .ok ⟨d⟩
  | _ => .bad
def asB (x : PD) : Res Bool := match x with | ⟨.bool b⟩ => .ok b | _ => .bad
def asI (x : PD) : Res Int := match x with | ⟨.int b⟩ => .ok b | _ => .bad
def asS (x : PD) : Res Str := match x with | ⟨.str b⟩ => .ok b | _ => .bad
def isNon : PD → Bool | ⟨.none⟩ => true | _ => false
def eqvD (x y : PD) : Res Bool := guardR (SeqAt.shaped x.d && SeqAt.shaped y.d) (.ok (PyData.eqv x.d y.d))
section
variable {X : Cx} {W : WX} {g : Bool} {ρ : List Slot} {T A : Type} [Rp T] [Rp A] {a b e : Expr} {pos : Pos} {lv : Nat}
theorem e_toD [Dat T] {m : Res T} (h : EG X W g ρ e m) : EG X W g ρ e (m.bind fun x => .ok (PD.mk (Dat.toD x))) := by
  obtain ⟨t, p, q⟩ := h.ex
  exact ⟨t, p, fun S own σ H Q rs hp => q S own σ H Q rs (hp.bind.imp (fun x hx H' v s r => hx H' v s (Dat.dp r)) fun _ z => z)⟩
theorem e_toDp [Dat T] {x : T} (h : EG X W g ρ e (.ok x)) : EG X W g ρ e (.ok (PD.mk (Dat.toD x))) := e_toD h
theorem idx_get {α β : Type} {xs : List α} {i : Int} {f : α → Res β} {Q : β → Prop} {E : Ex → Prop} (h : Post ((idxM xs i).bind f) Q E) : ∃ (j : Nat) (y : α), ixN xs.length i = some j ∧ xs[j]? = some y ∧ Post (f y) Q E := by
  unfold idxM atI at h
  cases ej : ixN xs.length i with
  | none => rw [ej] at h; exact h.elim
  | some j =>
    rw [ej] at h
    cases ey : xs[j]? with
    | none => rw [Option.bind_some, ey] at h; exact h.elim
    | some y => rw [Option.bind_some, ey] at h; exact ⟨j, y, rfl, ey, h⟩
theorem e_ixD {m : Res PD} {n : Res Int} (h : EG X W g ρ a m) (h2 : EG X W true ρ b n) (hs : PlainIx b := by exact fun _ _ => rfl) : EG X W g ρ (.Subscript a b pos) (m.bind fun x => n.bind fun i => idxD x i) := by
  obtain ⟨ta, pa, qa⟩ := h.ex
  obtain ⟨tb, pb, qb⟩ := h2.ex
  refine ⟨_, pe_ix ix_seq pa pb hs, fun S own σ H Q rs hP => two_run (R' := fun v u H2 => rIx X.K v u H2 Q) qa qb rs hP fun x i v u H2 s r1 r2 hp => ?_⟩
  obtain ⟨d⟩ := x
  cases r2
  cases r1 with
  | lst r1 r3 =>
    obtain ⟨j, y, ej, ey, hq⟩ := idx_get (show Post ((idxM _ i).bind fun d => .ok (PD.mk d)) _ _ from hp)
    obtain ⟨w, e3, r4⟩ := dpAll_get r3 ey
    refine .inl ⟨_, _, i, w, rfl, rfl, hide_sub.seq r1, ?_, hq H2 w s r4⟩
    unfold atI
    rw [dpAll_length r3, ej]
    exact e3
  | tup r1 r3 =>
    obtain ⟨j, y, ej, ey, hq⟩ := idx_get (show Post ((idxM _ i).bind fun d => .ok (PD.mk d)) _ _ from hp)
    obtain ⟨w, e3, r4⟩ := dpAll_get r3 ey
    refine .inr (.inl ⟨_, _, i, w, rfl, rfl, SqT.same hide_sub r1, ?_, hq H2 w s r4⟩)
    unfold atI
    rw [dpAll_length r3, ej]
    exact e3
  | _ => exact hp.elim
theorem e_ixDp {x : PD} {i : Int} (h : EG X W g ρ a (.ok x)) (h2 : EG X W true ρ b (.ok i)) (hs : PlainIx b := by exact fun _ _ => rfl) : EG X W g ρ (.Subscript a b pos) (idxD x i) := e_ixD h h2 hs
theorem e_asB {m : Res PD} (h : EG X W true ρ e m) : EG X W g ρ e (m.bind asB) := by
  obtain ⟨t, p, q⟩ := h.ex
  refine ⟨t, p, fun S own σ H Q rs hp => q S own σ H Q rs (hp.bind.imp (fun x hx H' v s r => ?_) fun _ z => z)⟩
  obtain ⟨d⟩ := x
  cases r with
  | bl b => exact hx H' _ s rfl
  | _ => exact hx.elim
theorem e_asBp {x : PD} (h : EG X W true ρ e (.ok x)) : EG X W g ρ e (asB x) := e_asB h
theorem e_asI {m : Res PD} (h : EG X W true ρ e m) : EG X W g ρ e (m.bind asI) := by
  obtain ⟨t, p, q⟩ := h.ex
  refine ⟨t, p, fun S own σ H Q rs hp => q S own σ H Q rs (hp.bind.imp (fun x hx H' v s r => ?_) fun _ z => z)⟩
  obtain ⟨d⟩ := x
  cases r with
  | int b => exact hx H' _ s rfl
  | _ => exact hx.elim
theorem e_asIp {x : PD} (h : EG X W true ρ e (.ok x)) : EG X W g ρ e (asI x) := e_asI h
theorem e_asS {m : Res PD} (h : EG X W true ρ e m) : EG X W g ρ e (m.bind asS) := by
  obtain ⟨t, p, q⟩ := h.ex
  refine ⟨t, p, fun S own σ H Q rs hp => q S own σ H Q rs (hp.bind.imp (fun x hx H' v s r => ?_) fun _ z => z)⟩
  obtain ⟨d⟩ := x
  cases r with
  | str b => exact hx H' _ s rfl
  | _ => exact hx.elim
theorem e_asSp {x : PD} (h : EG X W true ρ e (.ok x)) : EG X W g ρ e (asS x) := e_asS h
theorem dp_non {K : PySem.W.Frag} {H : Hp} {v : V} {x : PD} (h : Dp K H v x.d) : decide (v = .non) = isNon x := by
  obtain ⟨d⟩ := x
  cases h <;> rfl
theorem e_isND {m : Res PD} {j p2} (h : EG X W true ρ a m) : CJ X W ρ .Is a (.Constant .none j p2) (m.bind fun x => .ok (isNon x)) := by
  obtain ⟨ta, pa, qa⟩ := h.ex
  refine ⟨_, _, _, op_isN, nomark _, pa, pe_non, fun S own σ H Q R rs hp hR => one_run (R' := fun v H2 => (V.non = .non ∧ R (.bl (decide (v = .non))) H2)) qa rs hp fun x v H2 s r1 hq => ⟨rfl, ?_⟩⟩
  rw [dp_non r1]
  exact hR _ _ (hq H2 s)
theorem e_isNDp {x : PD} {j p2} (h : EG X W true ρ a (.ok x)) : CJ X W ρ .Is a (.Constant .none j p2) (.ok (isNon x)) := e_isND h
theorem e_isnotND {m : Res PD} {j p2} (h : EG X W true ρ a m) : CJ X W ρ .IsNot a (.Constant .none j p2) (m.bind fun x => .ok (!isNon x)) := by
  obtain ⟨ta, pa, qa⟩ := h.ex
  refine ⟨_, _, _, op_notN, nomark _, pa, pe_non, fun S own σ H Q R rs hp hR => one_run (R' := fun v H2 => (V.non = .non ∧ R (.bl (!decide (v = .non))) H2)) qa rs hp fun x v H2 s r1 hq => ⟨rfl, ?_⟩⟩
  rw [dp_non r1]
  exact hR _ _ (hq H2 s)
theorem e_isnotNDp {x : PD} {j p2} (h : EG X W true ρ a (.ok x)) : CJ X W ρ .IsNot a (.Constant .none j p2) (.ok (!isNon x)) := e_isnotND h
theorem e_eqvD {m n : Res PD} (C : CtxOk X W lv) (h : EG X W true ρ a m) (h2 : EG X W true ρ b n) : CJ X W ρ .Eq a b (m.bind fun x => n.bind fun y => eqvD x y) :=
  e_cmpR (f := eqvD) (op_eqD C.room.units) (nomark _) h h2 (fun _ _ H x y v u Q r1 r2 hq => by
    obtain ⟨h1, hq⟩ := hq.guard
    rw [Bool.and_eq_true] at h1
    exact ⟨_, _, dp_same hide_sub r1, dp_same hide_sub r2, h1.1, h1.2, hq⟩)
theorem e_eqvDp {x y : PD} (C : CtxOk X W lv) (h : EG X W true ρ a (.ok x)) (h2 : EG X W true ρ b (.ok y)) : CJ X W ρ .Eq a b (eqvD x y) := e_eqvD C h h2
end
section
variable {P : Program} {w : World} {K : PySem.W.Frag} {mg : Str → Option Value} {base : Heap} {x qual : Str} {params : Arguments} {body : List Stmt} {scope : Scope} {kws : List (Str × V)} {fd : FuncData} {ps : List Str} {k : Nat} {A : Type} {as : A → List AV}
/-- where nothing is promised -/
theorem fok_bad {R : Type} [Rp R] {f : A → Res R} (F : FunD K x qual params body scope [] kws (He.ga K x) fd) (hgl : mg x = some (.ref (He.ga K x))) (hb : Binds K fd ps []) (hf : ∀ u, f u = .bad) : FOk P w K mg base x k (spOf K as f) := by
  have no : ∀ vs H Q E, ¬ spOf K as f vs H Q E := fun vs H Q E h => by
    obtain ⟨S, u, _, _, hp⟩ := h
    rw [hf u] at hp
    exact hp
  exact ⟨⟨fd, ps, ⟨fun vs H Q E h => (no _ _ _ _ h).elim, fun A outer s H args us vs Q E _ _ _ _ h => (no _ _ _ _ h).elim⟩, hb⟩, F.kp, hgl⟩
end
end Py

set_option Elab.async false
set_option linter.all false
set_option maxRecDepth 100000
set_option maxHeartbeats 4000000
namespace Py
open PySem PySem.Spec PyProof.Rows L2
open Rp (rp)
/-! ### facts of the top: the layer's, and a boolean of one's own -/
def obsP (fb : PySem.W.Frag → Bool) (fa : List He.Fa) (fn : List He.DefD) (K : PySem.W.Frag) : He.AlD := (fb K && (He.obsD fa fn K).1, (He.obsD fa fn K).2)
def obsPG (n : Nat) (fb : PySem.W.Frag → Bool) (fa : List He.Fa) (fn : List He.DefD) (g : Addr → Option Obj) : He.AlD := obsP fb fa fn (He.frG g (He.asD g n))
structure SaysP (fb : PySem.W.Frag → Bool) (fa : List He.Fa) (fn : List He.DefD) (K : PySem.W.Frag) : Prop where
  eq : obsP fb fa fn K = He.valD fn
def hookP (n : Nat) (fb : PySem.W.Frag → Bool) (fa : List He.Fa) (fn : List He.DefD) : PySem.W.Hook where
  α := He.AlD
  obs := fun s => obsPG n fb fa fn s.heap.get?
  val := fun _ => He.valD fn
  says := fun _ h => ∃ K : PySem.W.Frag, K.In h ∧ SaysP fb fa fn K
  of := fun _ _ e => ⟨_, He.frG_in, ⟨e⟩⟩
  keeps := fun _ _ _ ⟨K, hK, c⟩ k => ⟨K, PySem.W.Frag.In.keeps hK k, c⟩
theorem obsPG_eq {n : Nat} {fb : PySem.W.Frag → Bool} {fa : List He.Fa} {fn : List He.DefD} {g : Addr → Option Obj} {s : Shared} (h : ∀ a, g a = s.heap.get? a) : obsPG n fb fa fn g = (hookP n fb fa fn).obs s := by
  have e : g = s.heap.get? := funext h
  rw [e] <;> rfl
theorem SaysP.own {fb : PySem.W.Frag → Bool} {fa : List He.Fa} {fn : List He.DefD} {K : PySem.W.Frag} (c : SaysP fb fa fn K) : fb K = true :=
  (He.ba (show (fb K && (He.obsD fa fn K).1) = true from congrArg (fun z : He.AlD => z.1) c.eq)).1
theorem SaysP.says {fb : PySem.W.Frag → Bool} {fa : List He.Fa} {fn : List He.DefD} {K : PySem.W.Frag} (c : SaysP fb fa fn K) : He.SaysD fa fn K := by
  have h1 := (He.ba (show (fb K && (He.obsD fa fn K).1) = true from congrArg (fun z : He.AlD => z.1) c.eq)).2
  have h2 : (obsP fb fa fn K).2 = (He.valD fn).2 := congrArg (fun z : He.AlD => z.2) c.eq
  exact Prod.ext h1 h2
/-- a name of the top that is bound to a builtin -/
def bltB (x : Str) (b : String) (K : PySem.W.Frag) : Bool := He.eqO (PySem.W.nsIn K mainGlobals x) (some (some (.builtin b)))
theorem bltB_ok {K : PySem.W.Frag} {h : Heap} {mg : Str → Option Value} (X : K.In h) (G : h.Ns mainGlobals mg) {x : Str} {b : String} (c : bltB x b K = true) : mg x = some (.builtin b) := PySem.W.mg_of X G (He.eqO_ok c)
/-- the law's def, its frame's names in sight -/
theorem fn_data {P : Program} {w : World} {K : PySem.W.Frag} {mg : Str → Option Value} {base : Heap} {x qual : Str} {params : Arguments} {body : List Stmt} {scope : Scope} {kws : List (Str × V)} {fd : FuncData} {N ps : List Str} {k : Nat} {A : Type} {as : A → List AV}
    {R : Type} [Rp R] {f : A → Res R} {ρ0 : A → List Slot} (F : FunD K x qual params body scope [] kws (He.ga K x) fd) (S : FnScope N ps scope) (hl : ∀ u, (as u).length = ps.length := by intro _; rfl)
    (h0 : ∀ u, ρ0 u = (as u).map AV.slot ++ List.replicate (N.length - ps.length) .non := by intro _; rfl)
    (d : ∀ cdv A outer s H E, CtxOk (fcx P w K mg base N qual scope (He.ga K x) cdv A outer s H E) (fun c d _ H' => E c d H') k → ∀ u, SR (fcx P w K mg base N qual scope (He.ga K x) cdv A outer s H E) (fun c d _ H' => E c d H') none (ρ0 u) body (retD R) (f u)) :
    FnOk P w K mg base (L2N.CX P w) (k + 1) (He.ga K x) fd ps (spOf K as f) := by
  refine FunD.ok F S (fun vs H Q E h => ?_) (fun cdv A outer s H vs Q E hr h => ?_)
  · obtain ⟨S', u, _, r, _⟩ := h
    rw [r.length, hl]
  · obtain ⟨S', u, hd, r, hp⟩ := h
    obtain ⟨t, p, q⟩ := (d cdv A outer s H E (fctx S hr) u).ex
    refine ⟨t, p, q S' [] _ H _ ?_ (hp.imp (fun y hy v σ' H' own' x' _ z => hy H' v x'.nil_same (Rp.mono (hide_mono fun b hb => List.mem_append_left _ hb) z)) fun e he σ' H' own' c d x' _ z => ?_)⟩
    · rw [h0, ← hl u, ← r.length]
      exact rs_start r hd
    · obtain ⟨z1, dx, fs, z2, z3, z4⟩ := z
      refine he H' c d x'.nil_same ⟨z1, dx, fs, z2, hide_mono (fun b hb => List.mem_append_left _ hb) _ _ z3, Paired.imp2 z4 fun a b z => ⟨z.1, ?_⟩⟩
      exact (dp_same (hide_mono fun b hb => List.mem_append_left _ hb) z.2)
/-- the walk of a law of one number list, of bounded digits -/
theorem walk_py {l : PySem.W.OpenLaw} {n k : Nat} {q : Program} {loose : List Str} {XP : (Str → Option Value) → Heap → Prop} {YP : World → Heap → Prop} {d : DefRec} {x : Str} {f : Scr × Unit → Res Bool}
    (hn : l.most = some n) (hn2 : n ≤ sizeLine) (hdf : d.params.defaults = []) (hr : Room k callerA)
    (hf : ∀ ns : List Int, ns.length ≤ n → (∀ z ∈ ns, Builtin.Int.intBits z ≤ 1048576) → f (⟨ns⟩, ()) = .ok true)
    (F : ∀ (w : World) (mg : Str → Option Value) (fa : Addr) (h : Heap), YP w h → h.Ns mainGlobals mg → mg d.name = some (.ref fa) →
      ∃ (K : PySem.W.Frag) (fd : FuncData), K.In h ∧ (∀ (s : Shared) (u : Value), BindsTo s fd ⟨[u], []⟩ [(x, u)]) ∧
        ∀ base : Heap, K.In base → base.Ns mainGlobals mg → FnOk l.prog w K mg base (L2N.CX l.prog w) k fa fd [x] (spOf K (asC asN) f)) :
    PySem.W.WalkO q loose XP YP l.row.toRowW d [] (fun f vs => PySem.call f vs) := by
  refine Att.attach_callB hn hdf fun w s₀ s₁ mg mb fa o pm cd doc a vs ns G Y ho hd hcd hmg hobj hints hlen hbits hg => ?_
  obtain ⟨K, fd, KX, hb, hF⟩ := F w mg fa _ Y G.T.g hmg
  refine law_call KX G.T.g G.T.b G.T.builtins G.T.nolimit hg hobj hints (Nat.le_trans hlen hn2) hr hF hb (fun H hO hS => law_sp (hf ns hlen hbits) hS) fun H e s' h => ?_
  obtain ⟨_, _, _, _, _, _, _, _, _, _, _, _, z⟩ := h
  exact z.elim
end Py

set_option Elab.async false
set_option linter.all false
set_option maxRecDepth 100000
set_option maxHeartbeats 4000000
/-! Py, part X: own errors: classes over ValueError whose __init__ says super().__init__(..), then self.f = .. -/
namespace Py
open PySem PySem.Spec L2
open Rp (rp)
/-- what the written part says of such a class and its __init__ -/
structure SupC (P : Program) (K : PySem.W.Frag) (C fI : Addr) (qual : Str) (params : Arguments) (body : List Stmt) (scope : Scope) (fd : FuncData) : Prop where
  ox : OexC K C
  iC : PySem.W.findIn K (.ref C) "__init__" = some (some (.ref fI))
  tI : PySem.W.typeIn K (.ref fI) = some (.type "function")
  fn : ∃ oc od osl dV kV doc pm an ct cda cc, fd = PySem.W.ksFn "__init__" qual params body scope dV kV doc pm an (.ref cda) ct cc ∧ K.lookup fI = some ⟨oc, od, .func fd, osl⟩ ∧ PySem.W.codeIn K (.ref cda) qual = true ∧
    (∃ ccl cdd vs ccs file tf, K.lookup cda = some ⟨ccl, cdd, .fields vs, ccs⟩ ∧ vs[2]? = some (.str file tf) ∧ ((P.main.file : Str) == file) = true) ∧ ∃ cl cld csl, K.lookup cc = some ⟨cl, cld, .cell (some (.ref C)), csl⟩
  su : PySem.W.ks_superIn K C C "__init__" = some (some (.builtin "ValueError.__init__"))
  sv : PySem.W.subIn K (.ref C) (.type "ValueError") = some true
  sC : PySem.W.mroIn K C (.ref C) = some true
  op : PySem.W.nsIn K cStatics "thirdparty.any" = some none
  ns : PySem.W.nsIn K mainGlobals "super" = some none
/-- the text's scope of such an __init__ -/
structure SupS (P : Program) (params : Arguments) (scope : Scope) (p : Str) : Prop where
  kind : scope.kind = .function
  co : scope.isCoroutine = false
  gen : scope.isGenerator = false
  cell : ∀ x ∈ scope.names, x.2 ≠ .cell
  free : ∀ x ∈ scope.names, x.2 = .free → x.1 = "__class__"
  self : scope.names.lookup ("self" : Str) = some .local
  par : scope.names.lookup p = some .local
  sup : scope.names.lookup ("super" : Str) = some .globalImplicit
  cls : scope.names.lookup ("__class__" : Str) = some .free
  head : ∃ ar, (params.posonlyargs ++ params.args).head? = some ar ∧ ar.arg = "self"
  nd : ("self" : Str) ≠ p
  top : (P.main.scope.names.lookup ("super" : Str)).isSome = false
/-- the context of that def -/
def cxS (CX : CXT) (P : Program) (w : World) (K : PySem.W.Frag) (mg : Str → Option Value) (base : Heap) (N : List Str) (qual : Str) (scope : Scope) (f : Addr) (cd : Value) (cc : Addr) (A : Around) (outer : List Env) (s : Shared) (H : Hp) (E : XK) : Cx where
  prog := P
  w := w
  K := K
  mg := mg
  base := base
  A := A.deeper (PySem.W.ksEnv qual scope s.heap.objs.size f cd cc)
  N := N
  s_0 := s
  H_0 := H
  env := PySem.W.ksEnv qual scope s.heap.objs.size f cd cc
  outer := outer
  stack := PySem.W.ksEnv qual scope s.heap.objs.size f cd cc :: outer
  ex := []
  calm := true
  fn := fun _ => false
  pn := []
  xe := fun e s' => wpAny (model P w) (A.deeper (PySem.W.ksEnv qual scope s.heap.objs.size f cd cc)) (leaving (PySem.W.ksEnv qual scope s.heap.objs.size f cd cc) e) (fun _ s'' => CX outer H s E e s'') (fun e' s'' => CX outer H s E e' s'') s'
section
variable {CX : CXT} {P : Program} {w : World} {K : PySem.W.Frag} {mg : Str → Option Value} {base : Heap} {qual : Str} {params : Arguments} {body : List Stmt} {scope : Scope} {p : Str} {fd : FuncData} {C fI : Addr}
theorem cls_lookup {x : Str} {cc c : Addr} (h : List.lookup x [(("__class__" : Str), cc)] = some c) : c = cc ∧ x = "__class__" := by
  by_cases e : x = "__class__"
  · subst e
    simp [List.lookup] at h
    exact ⟨h.symm, rfl⟩
  · have e2 : (x == ("__class__" : Str)) = false := by simpa using e
    simp [List.lookup, e2] at h
theorem inv_sup {A : Around} {outer : List Env} {s : Shared} {H : Hp} {E : XK} {f cc a : Addr} {cd u : Value} {y : V} {h₁ : Heap} {tk : Nat} {oc : Obj} {vc : Option Value} (S : SupS P params scope p) (hd : A.handled = none) (e0 : Env0 P w K mg base A outer s H)
    (hcc : base.get? cc = some oc) (hcd : oc.data = .cell vc) (ry : RelV y u) (hns : h₁.Ns s.heap.objs.size (fun x => (List.zip [("self" : Str), p] [Value.ref a, u]).reverse.lookup x)) (hk : ∀ b o, s.heap.get? b = some o → h₁.get? b = some o) :
    Inv (cxS CX P w K mg base ["self", p] qual scope f cd cc A outer s H E) [] (start ["self", p] [.ref a, y]) H { s with heap := h₁, toks := tk } := by
  have noA : ∀ b : Addr, b ∉ (cxS CX P w K mg base ["self", p] qual scope f cd cc A outer s H E).ex := fun b z => absurd (show b ∈ ([] : List Addr) from z) (by simp)
  have c1 := e0.bs cc oc hcc
  refine ⟨⟨e0.mod, S.kind, rfl, rfl, Nat.le_refl _, fun y z c h1 h2 => ?_, fun y hy => ?_, fun y c z h => ?_, fun _ => hd, Around.frames_deeper e0.frames, .inr ⟨rfl, rfl⟩, fun b z => absurd z (noA b), e0.bs, e0.bsz, fun b _ _ => noA b, fun b z => absurd z (noA b), e0.funs, e0.frf⟩,
    rfl, e0.bare, Un.kept hk, ⟨_, hns, fun i x v h1 h2 h3 => ?_⟩, fun y c h => ?_, e0.hok.fresh (Nat.le_refl _), fun y c h => ?_, fun p hp => absurd (show p ∈ ([] : List (Addr × Obj)) from hp) (by simp), e0.hok.kept hk, rfl⟩
  · exact (cls_lookup h1).2.trans (cls_lookup h2).2.symm
  · have hy : scope.names.lookup y = some .cell ∨ scope.names.lookup y = some .free := hy
    rcases hy with hy | hy
    · exact absurd rfl (S.cell _ (PySem.mem_of_lookup hy))
    · have e := S.free _ (PySem.mem_of_lookup hy) rfl
      have e' : y = "__class__" := e
      subst e'
      exact ⟨cc, by show List.lookup ("__class__" : Str) [(("__class__" : Str), cc)] = some cc; simp [List.lookup]⟩
  · exact absurd (show false = true from z) (by decide)
  · match i, h1, h2 with
    | 0, h1, h2 =>
      have e1 : ("self" : Str) = x := Option.some.inj h1
      have e2 : some (V.ref a) = some v := Option.some.inj h2
      have e3 : V.ref a = v := Option.some.inj e2
      subst e1
      subst e3
      refine ⟨.ref a, rfl, .inl ⟨S.self, ?_⟩⟩
      have z : (("self" : Str) == p) = false := by simpa using S.nd
      show List.lookup ("self" : Str) [(p, u), ("self", Value.ref a)] = _
      rw [List.lookup, z]
      simp [List.lookup]
    | 1, h1, h2 =>
      have e1 : p = x := Option.some.inj h1
      have e2 : some y = some v := Option.some.inj h2
      have e3 : y = v := Option.some.inj e2
      subst e1
      subst e3
      refine ⟨u, ry, .inl ⟨S.par, ?_⟩⟩
      show List.lookup p [(p, u), ("self", Value.ref a)] = _
      simp [List.lookup]
    | n + 2, h1, h2 =>
      have h1' : ([] : List Str)[n]? = some x := h1
      simp at h1'
  · obtain ⟨e, _⟩ := cls_lookup h
    subst e
    exact ⟨vc, oc, hk _ _ c1.1, hcd⟩
  · obtain ⟨e, _⟩ := cls_lookup h
    subst e
    exact c1.2

/-- the def: super().__init__(..), then self.f = p -/
theorem sup_ok {a0 : Expr} {as : List Expr} {fld : Str} {p0 p1 p2 p3 p4 p5 p6 p7 p8 : Pos} {ta : TA} {k : Nat} {pl : Sem Bool}
    (T : SupC P K C fI qual params [.Expr (.Call (.Attribute (.Call (.Name "super" p0) [] [] p1) "__init__" p2) (a0 :: as) [] p3) p4, .Assign [.Attribute (.Name "self" p5) fld p6] (.Name p p8) p7] scope fd) (S : SupS P params scope p)
    (hfld : PySem.W.findIn K (.ref C) fld = some none) (hpd : (p == ("__debug__" : Str)) = false) (hpc : (p == ("__classdict__" : Str)) = false)
    (ha : ∀ f cd cc A outer s H E, PA (cxS CX P w K mg base ["self", p] qual scope f cd cc A outer s H E) (a0 :: as) ta)
    (hcl : ∀ env : Env, eval (.Call (.Attribute (.Call (.Name "super" p0) [] [] p1) "__init__" p2) (a0 :: as) [] p3) env = (do
      let ov ← attributeBase (.Call (.Name "super" p0) [] [] p1) "__init__" env (eval (.Call (.Name "super" p0) [] [] p1) env)
      standAt p2.atName
      let (f, first) ← holding [ov] (getMethod ov "__init__" pl)
      callWith p3 f first (backTo p3 (starEach (a0 :: as) env)) []))
    (hst : ∀ env : Env, starEach (a0 :: as) env = (false, eval a0 env) :: starEach as env) (hpl : ∀ env : Env, (backTo p3 (starEach as env)).any (·.1) = false)
    (hsw0 : ∀ (n : Nat) (env : Env), swapsWith (.Call (.Attribute (.Call (.Name "super" p0) [] [] p1) "__init__" p2) (a0 :: as) [] p3) none n env = pure false)
    (hsw : ∀ env : Env, swapsWith (.Name p p8) (some (.Attribute (.Name "self" p5) fld p6)) p7.line env = pure false) :
    FnOk P w K mg base CX (k + 1) fI fd ["self", p] (fun vs H Q _ => ∃ a y, vs = [.ref a, y] ∧ H a = some (exo a C none) ∧ (∀ Q', (∀ ms : List V, ms.length ≤ 1000 → Q' ms H) → ta (start ["self", p] [.ref a, y]) H Q') ∧
      ∀ dx, H dx = none → dx ≠ a → Q .non (upd (upd H dx (exd dx [(fld, y)])) a (exo a C (some dx)))) := by
  refine ⟨fun vs H Q E h => ?_, fun A outer s H args us vs Q E hr e0 hb r hsp => ?_⟩
  · obtain ⟨a, y, rfl, _⟩ := h
    rfl
  obtain ⟨a, y, rfl, ea, hta, hQ⟩ := hsp
  obtain ⟨u, rfl, ry⟩ : ∃ u, us = [.ref a, u] ∧ RelV y u := by
    cases r with
    | cons r1 r2 =>
      cases r2 with
      | cons r3 r4 =>
        cases r4
        have r1' : _ = Value.ref a := r1
        subst r1'
        exact ⟨_, rfl, r3⟩
  have KX : K.In s.heap := e0.mod.kin.keeps fun b o e => (e0.bs b o e).1
  have lim : s.heap.NoLimit := e0.mod.nolimit.keeps fun b o e => (e0.bs b o e).1
  obtain ⟨oc, od, osl, dV, kV, doc, pm, an, ct, cda, cc, rfl, lk, hcd, ⟨ccl, cdd, vs, ccs, file, tf, hco, hvs, hfile⟩, cl, cld, csl, hcell⟩ := T.fn
  obtain ⟨ar, har, hself⟩ := S.head
  refine ks_codeAny_call_defAt (fd := PySem.W.ksFn "__init__" qual params _ scope dV kV doc pm an (.ref cda) ct cc) (body := _) (binds := List.zip [("self" : Str), p] [Value.ref a, u]) hr.depth (KX _ _ lk) rfl lim (PySem.W.codeRec_of KX hcd) rfl hb S.cell (fun z hz => ?_) (fun h₁ hns hk₁ => ?_) S.co S.gen S.kind
  · rcases List.mem_cons.mp hz with rfl | hz
    · exact S.self
    · rcases List.mem_cons.mp hz with rfl | hz
      · exact S.par
      · cases hz
  have I : Inv (cxS CX P w K mg base ["self", p] qual scope fI (.ref cda) cc A outer s H E) [] (start ["self", p] [.ref a, y]) H { s with heap := h₁, toks := s.toks + (List.zip [("self" : Str), p] [Value.ref a, u]).length } :=
    inv_sup S hr.hd e0 (e0.mod.kin _ _ hcell) rfl ry hns hk₁
  have X1 : K.In h₁ := I.kIn
  obtain ⟨mb, hb1, hb2⟩ := e0.mod.blt
  have bk : ∀ b o, base.get? b = some o → h₁.get? b = some o := I.bk
  obtain ⟨nm, q, N, bs, bm, sn, sub, ab, col, dd, k0, k1, k2, k3, k5, hC, hbm⟩ := T.ox.cls
  obtain ⟨t1, hx⟩ := exo_at I.hok ea
  refine ks_wpAt_execs_cons (ks_wpAt_Expr_any (ks_wpAt_MethodCall (pl := pl) ?_ (hcl _)) (by show (scope.kind == .module && _) = false; rw [S.kind]; rfl) (hsw0 _ _))
  refine ks_wpAt_super_base (env := PySem.W.ksEnv qual scope s.heap.objs.size fI (.ref cda) cc) S.sup S.cls rfl rfl (X1 _ _ lk) rfl har rfl (X1 _ _ hco) rfl hvs hfile S.top ?_
  refine PySem.W.ks_loadName_global S.kind S.sup (PySem.Calls.loadGlobal_builtin (env := PySem.W.ksEnv qual scope s.heap.objs.size fI (.ref cda) cc) (e0.mod.glob.keeps bk) (PySem.W.mg_none_of e0.mod.kin e0.mod.glob T.ns) (hb1.keeps bk) ((hb2 _ (by decide +kernel)).trans PyProof.Rows.Boot.«super») ⟨rfl, ?_⟩)
  refine wpAny_loadName_free S.kind S.cls rfl ⟨_, X1 _ _ hcell, rfl⟩ ?_
  rw [hself]
  refine wpAny_loadName_local S.kind S.self hns (v := .ref a) ?_ ?_
  · have z : (("self" : Str) == p) = false := by simpa using S.nd
    show List.lookup ("self" : Str) [(p, u), ("self", Value.ref a)] = _
    rw [List.lookup, z]
    simp [List.lookup]
  refine ks_wpAny_isType_cls (X1 _ _ hC) rfl ⟨rfl, ?_⟩
  refine ks_wpAny_call_super (X1 _ _ hC) rfl hx rfl (fun c e => by cases e) (PySem.W.looks_mroIn X1 T.sC) (fun h2 hso hk2 => ?_)
  have X2 : K.In h2 := X1.keeps hk2
  have nC : a ≠ C := fun z => by
    have z1 := X1 _ _ hC
    rw [← z, hx] at z1
    cases z1
  have hcl2 : PySem.W.clsIn K C = some { name := nm, bases := bs, mro := .ref C :: bm, ns := N, qualname := q, hasDict := true, slotNames := sn, subclasses := sub, abstract := ab, collection := col, hasDel := false } := by unfold PySem.W.clsIn; rw [hC] <;> rfl
  have hx2 := hk2 _ _ hx
  have hsu : PySem.W.alongIn K "__init__" (((Value.ref C :: bm).dropWhile (· != .ref C)).drop 1) = some (some (.builtin "ValueError.__init__")) := by
    have z := T.su
    unfold PySem.W.ks_superIn at z
    rw [hcl2] at z
    exact z
  refine PySem.W.kxs_getMethod PySem.W.kxs_ValueError hso (PySem.W.looks_opaque X2 T.op) (l₀ := .ref C :: bm) ?_ rfl X2 hsu ?_ nC rfl ?_
  · exact fun A Q E s k q => wpAny_bind ((PySem.W.looks_clsIn X2 hcl2) A _ E s k (wpAny_pure q))
  · exact (PySem.W.InstAt.type (ox := { cls := .ref C, dict := none, data := .fields #[.ref t1, .none, .none, .none, .bool false, .none] }) (od := none) ⟨hx2, rfl, rfl, trivial⟩).andThen (PySem.W.looks_subIn X2 T.sv)
  have hk3 : ∀ b o, h₁.get? b = some o → (h2.push (PySem.W.kxs_mw "ValueError.__init__" a)).get? b = some o := fun b o e => Heap.get?_push_of_some _ (hk2 b o e)
  have I2 := I.kept (t' := s.toks) hk2
  have I3 := (I.kept (t' := s.toks + (List.zip [("self" : Str), p] [Value.ref a, u]).length + 1) hk3).pins_of (pins' := [(h2.objs.size, PySem.W.kxs_mw "ValueError.__init__" a)]) fun z hz => by
    cases List.mem_singleton.mp hz
    refine ⟨Heap.get?_push_at rfl rfl, I2.hok.fresh (Nat.le_refl _), Nat.ne_of_gt I2.lt, I2.nofs (Nat.le_refl _), fun v z => by cases z⟩
  show wpAny _ _ (callWith p3 (.ref h2.objs.size) [] (backTo p3 (starEach (a0 :: as) (PySem.W.ksEnv qual scope s.heap.objs.size fI (.ref cda) cc))) []) _ _ _
  have run := (ha fI (.ref cda) cc A outer s H E).run p3 _ _ _ H (fun ms H1 => ms.length ≤ 1000 ∧ H1 = H) I3 (hta _ fun ms hm => ⟨hm, rfl⟩)
  have run' : wpAny _ _ (spliced (backTo p3 (starEach (a0 :: as) (PySem.W.ksEnv qual scope s.heap.objs.size fI (.ref cda) cc)))) _ _ _ := run
  rw [hst] at run' ⊢
  refine PySem.W.kxs_callWith (i := "ValueError.__init__") (x := a) (by show (false || (backTo p3 (starEach as _)).any (·.1)) = false; rw [hpl]; rfl) ?_
  refine PySem.Calls.evalArgs_plain (wpAny_mono run' (fun us1 s1 h1 => ?_) fun _ _ z => z)
  obtain ⟨ms, H1, J1, rm, hml, rfl⟩ := h1
  have hu : s1.heap.get? h2.objs.size = some (PySem.W.kxs_mw "ValueError.__init__" a) := (J1.pin _ (List.mem_append_right _ (List.mem_singleton.mpr rfl))).1
  refine ⟨hu, ?_⟩
  have hlen : us1.length ≤ sizeLine := by
    rw [← Paired.length rm, sizeLine_eq]
    omega
  obtain ⟨t2, hx3⟩ := exo_at J1.hok ea
  have X3 : K.In s1.heap := J1.kIn
  obtain ⟨hp, g, dr, tk, os⟩ := s1
  show wpAny _ _ (call (.ref h2.objs.size) us1) _ _ _
  refine wpAny_call (codeAny_of_tree ?_)
  show wpAny _ (A.deeper _).in1 (callAny (.ref h2.objs.size) ⟨us1, []⟩) _ _ _
  simp only [callAny]
  refine wpAny_bind (wpAny_load hu ?_)
  simp only [PySem.W.kxs_mw, show (Value.type "method-wrapper" == Value.type "method" || Value.type "method-wrapper" == Value.type "builtin_function_or_method" || Value.type "method-wrapper" == Value.type "method-wrapper") = true by decide, if_true]
  refine PySem.W.KFB.if_so (by decide) ?_
  refine wpAny_bind (PySem.W.check_bound_init F.excBase_ValueError.toExcCallFacts (X3 _ _ hC) hx3 rfl ?_)
  refine wpAny_bind (wpAny_pure (wpAny_pure ?_))
  refine ⟨plainId_quiet F.excBase_ValueError.init.plain _, codeAny_builtin F.excBase_ValueError.initEntry ?_⟩
  refine PySem.W.exc_init_tree (cls := .ref C) (t0 := t2) (dv := none) (c2 := .none) (c3 := .none) (b4 := .bool false) hx3 hlen (fun h4 k4 e4 _ => ?_)
  have J4 := J1.write (t' := tk) (x := a) (e := a) (o := exo a C none) (by rw [ea]; exact True.intro) (.inl rfl) k4 ⟨_, e4⟩ (exo_ok e4)
  have eu : upd H1 a (exo a C none) = H1 := by
    funext b
    by_cases hb : b = a
    · rw [hb, upd_same, ea]
    · rw [upd_ne hb]
  rw [eu] at J4
  have J5 := J4.pins_of (pins' := []) fun _ z => nomatch z
  have nd0 : List.Nodup [("self" : Str), p] := List.nodup_cons.mpr ⟨fun z => S.nd (List.mem_singleton.mp z), List.nodup_cons.mpr ⟨(fun z => nomatch z), List.nodup_nil⟩⟩
  have ps : PSs (cxS CX P w K mg base ["self", p] qual scope fI (.ref cda) cc A outer s H1 E) [.Assign [.Attribute (.Name "self" p5) fld p6] (.Name p p8) p7] _ :=
    pss_one (ps_ost (pe_var (i := 0) rfl (.inl S.self)) (pe_var (i := 1) rfl (.inl S.par) hpd hpc) (hsw _))
  have fin := ps.run [] _ (start ["self", p] [.ref a, y]) H1 { nx := fun _ H' => Q .non H', rt := fun _ _ => False } J5 ⟨y, rfl, .ref a, rfl, a, C, rfl, T.ox, hfld, .inl ⟨ea, hQ⟩⟩
  have fin' : wpAny _ (A.deeper _) (execs [.Assign [.Attribute (.Name "self" p5) fld p6] (.Name p p8) p7] _) _ _ _ := fin
  refine wpAt_of_wpAny (wpAny_mono fin' (fun fl s' hs => ?_) fun _ _ z => z)
  cases fl with
  | next =>
    obtain ⟨σ', H', J, q⟩ := hs
    exact ⟨.non, H', J.os, J.bare, J.base, J.hok, rfl, q⟩
  | ret u =>
    obtain ⟨v, σ', H', J, rv, q⟩ := hs
    exact q.elim
  | brk =>
    obtain ⟨_, _, _, q⟩ := hs
    exact False.elim q
  | cont =>
    obtain ⟨_, _, _, q⟩ := hs
    exact False.elim q
end
end Py

set_option Elab.async false
set_option linter.all false
set_option maxRecDepth 100000
set_option maxHeartbeats 4000000
/-! Py, part X2: own errors: the facts of the top, raising. -/
namespace Py
open PySem PySem.Spec L2
open Rp (rp)
/-! ### facts -/
def oexB (K : PySem.W.Frag) (C : Addr) : Bool := match K.lookup C with
  | some ⟨.type "type", _, .cls cd, sl⟩ => (match cd.mro, sl.toList with
    | .ref C' :: bm, [_, _, _, _, some (.builtin n), _] => C' == C && n == "ValueError.__new__" && !cd.hasDel && cd.hasDict && PySem.HandSPX.refsVE bm
    | _, _ => false)
  | _ => false
theorem oexB_ok {K : PySem.W.Frag} {C : Addr} (q : oexB K C = true) : ∃ nm q N bs bm sn sub ab col dd k0 k1 k2 k3 k5, K.lookup C = some (excClassObj nm q C N bs bm true sn sub ab col dd k0 k1 k2 k3 k5 "ValueError.__new__") ∧ PySem.HandSPX.refsVE bm = true := by
  unfold oexB at q
  split at q
  · rename_i dd cd sl ho
    split at q
    · rename_i C' bm k0 k1 k2 k3 n k5 hm hs
      simp only [Bool.and_eq_true, beq_iff_eq, Bool.not_eq_true'] at q
      obtain ⟨⟨⟨⟨rfl, rfl⟩, hdel⟩, hdi⟩, ht⟩ := q
      obtain ⟨nm, bs, mro, ns, qn, hd, sn, sub, ab, col, del⟩ := cd
      dsimp only at hm hdel hdi
      subst hm hdel hdi
      have hsl : sl = #[k0, k1, k2, k3, some (.builtin "ValueError.__new__"), k5] := by
        obtain ⟨l⟩ := sl
        simp only at hs
        rw [hs]
      subst hsl
      exact ⟨nm, qn, ns, bs, bm, sn, sub, ab, col, dd, k0, k1, k2, k3, k5, ho, ht⟩
    · cases q
  · cases q
/-- the __init__'s place -/
def initA (K : PySem.W.Frag) (C : Addr) : Addr := match PySem.W.findIn K (.ref C) "__init__" with
  | some (some (.ref f)) => f
  | _ => 0
abbrev SupW : Type := Option (Str × Str × Arguments × FuncBody × Scope × Addr × Addr)
def supW (K : PySem.W.Frag) (C : Addr) : SupW := match K.lookup (initA K C) with
  | some ⟨_, _, .func fd, _⟩ => some (fd.name, fd.qualname, fd.params, fd.body, fd.scope, fd.globals, fd.builtins)
  | _ => none
def supB (P : Program) (K : PySem.W.Frag) (x fld qual : Str) : Bool :=
  oexB K (He.ga K x) && (decide (PySem.W.findIn K (.ref (He.ga K x)) "__setattr__" = some (some (.builtin "object.__setattr__"))) && (decide (PySem.W.subIn K (.ref (He.ga K x)) (.type "BaseException") = some true) &&
  (decide (PySem.W.typeIn K (.ref (He.ga K x)) = some (.type "type")) && (PySem.W.keepIn K (.ref (He.ga K x)) && (decide (PySem.W.findIn K (.ref (He.ga K x)) "__init__" = some (some (.ref (initA K (He.ga K x))))) &&
  (decide (PySem.W.typeIn K (.ref (initA K (He.ga K x))) = some (.type "function")) && (decide (PySem.W.ks_superIn K (He.ga K x) (He.ga K x) "__init__" = some (some (.builtin "ValueError.__init__"))) &&
  (decide (PySem.W.subIn K (.ref (He.ga K x)) (.type "ValueError") = some true) && (decide (PySem.W.mroIn K (He.ga K x) (.ref (He.ga K x)) = some true) && (decide (PySem.W.nsIn K cStatics "thirdparty.any" = some none) &&
  (decide (PySem.W.nsIn K mainGlobals "super" = some none) && (decide (PySem.W.findIn K (.ref (He.ga K x)) fld = some none) &&
  (match K.lookup (initA K (He.ga K x)) with
    | some ⟨_, _, .func fd, _⟩ => decide (fd.defaults = .none) && (decide (fd.kwdefaults = .none) && ((match fd.code with
        | .ref cda => PySem.W.codeIn K (.ref cda) qual && (match K.lookup cda with
          | some ⟨_, _, .fields vs, _⟩ => (match (vs[2]? : Option Value) with
            | some (Value.str file _) => (P.main.file : Str) == file
            | _ => false)
          | _ => false)
        | _ => false) && (match fd.closure with
        | [(n, cc)] => decide (n = "__class__") && (match K.lookup cc with
          | some ⟨_, _, .cell (some (.ref D)), _⟩ => decide (D = He.ga K x)
          | _ => false)
        | _ => false)))
    | _ => false)))))))))))))
theorem supB_ok {P : Program} {K : PySem.W.Frag} {x fld qual : Str} {params : Arguments} {body : List Stmt} {scope : Scope} (h : supB P K x fld qual = true) (e : supW K (He.ga K x) = (some ("__init__", qual, params, FuncBody.stmts body, scope, mainGlobals, builtinsNs) : SupW)) :
    ∃ fd, SupC P K (He.ga K x) (initA K (He.ga K x)) qual params body scope fd ∧ PySem.W.findIn K (.ref (He.ga K x)) fld = some none ∧
      ∃ doc pm an cd ct cc, fd = PySem.W.ksFn "__init__" qual params body scope .none .none doc pm an cd ct cc := by
  unfold supB at h
  obtain ⟨h1, h⟩ := He.ba h
  obtain ⟨h2, h⟩ := He.ba h
  obtain ⟨h3, h⟩ := He.ba h
  obtain ⟨h4, h⟩ := He.ba h
  obtain ⟨h5, h⟩ := He.ba h
  obtain ⟨h6, h⟩ := He.ba h
  obtain ⟨h7, h⟩ := He.ba h
  obtain ⟨h8, h⟩ := He.ba h
  obtain ⟨h9, h⟩ := He.ba h
  obtain ⟨h10, h⟩ := He.ba h
  obtain ⟨h11, h⟩ := He.ba h
  obtain ⟨h12, h⟩ := He.ba h
  obtain ⟨h13, h⟩ := He.ba h
  unfold supW at e
  cases q : K.lookup (initA K (He.ga K x)) with
  | none => rw [q] at h; cases h
  | some o =>
    obtain ⟨oc, od, dt, osl⟩ := o
    rw [q] at h e
    cases dt with
    | func fd =>
      obtain ⟨n1, n2, n3, n4, n5, n6, n7, n8, n9, n10, n11, n12, n13, n14, n15⟩ := fd
      have e2 : (some (n1, n2, n3, n4, n5, n6, n15) : SupW) = (some ("__init__", qual, params, FuncBody.stmts body, scope, mainGlobals, builtinsNs) : SupW) := e
      simp only [Option.some.injEq, Prod.mk.injEq] at e2
      obtain ⟨g1, g2, g3, g4, g5, g6, g7⟩ := e2
      subst g1 g2 g3 g4 g5 g6 g7
      obtain ⟨k1, h⟩ := He.ba h
      obtain ⟨k2, h⟩ := He.ba h
      obtain ⟨k3, k4⟩ := He.ba h
      have j1 : n8 = .none := of_decide_eq_true k1
      have j2 : n9 = .none := of_decide_eq_true k2
      subst j1
      subst j2
      dsimp only at k3 k4
      cases n13 with
      | ref cda =>
        obtain ⟨k5, k6⟩ := He.ba k3
        rcases n7 with _ | ⟨⟨n, cc⟩, _ | ⟨_, _⟩⟩
        · cases k4
        · obtain ⟨k7, k8⟩ := He.ba k4
          have j7 : n = "__class__" := of_decide_eq_true k7
          subst j7
          split at k6
          · rename_i ccl cdd vs ccs hl
            split at k6
            · rename_i file tf hv
              split at k8
              · rename_i cl cld D csl hcc
                have j8 : D = He.ga K x := of_decide_eq_true k8
                subst j8
                exact ⟨_, ⟨⟨oexB_ok h1, of_decide_eq_true h2, of_decide_eq_true h3, of_decide_eq_true h4, h5⟩, of_decide_eq_true h6, of_decide_eq_true h7,
                  ⟨oc, od, osl, .none, .none, n10, n11, n12, n14, cda, cc, rfl, q, k5, ⟨_, _, vs, _, file, tf, hl, hv, k6⟩, _, _, _, hcc⟩,
                  of_decide_eq_true h8, of_decide_eq_true h9, of_decide_eq_true h10, of_decide_eq_true h11, of_decide_eq_true h12⟩, of_decide_eq_true h13, n10, n11, n12, _, n14, cc, rfl⟩
              · cases k8
            · cases k6
          · cases k6
        · cases k4
      | _ => cases k3
    | _ => cases h
/-! ### the classes as they are used -/
structure ErrC (P : Program) (w : World) (K : PySem.W.Frag) (mg : Str → Option Value) (base : Heap) (x fld : Str) (c : V → Prop) : Prop where
  ox : OexC K (He.ga K x)
  gl : mg x = some (.ref (He.ga K x))
  ex : ∃ fI fd p, PySem.W.findIn K (.ref (He.ga K x)) "__init__" = some (some (.ref fI)) ∧ PySem.W.typeIn K (.ref fI) = some (.type "function") ∧ FnOk P w K mg base (L2N.CX P w) 1 fI fd ["self", p] (fun vs H Q _ => ∃ a y, vs = [.ref a, y] ∧ H a = some (exo a (He.ga K x) none) ∧ c y ∧
    ∀ dx, H dx = none → dx ≠ a → Q .non (upd (upd H dx (exd dx [(fld, y)])) a (exo a (He.ga K x) (some dx)))) ∧ Binds K fd ["self", p] []
section
variable {P : Program} {w : World} {K : PySem.W.Frag} {mg : Str → Option Value} {base : Heap} {x fld p qual : Str} {c : V → Prop} {params : Arguments} {scope : Scope}
theorem errC_of {a0 : Expr} {as : List Expr} {p0 p1 p2 p3 p4 p5 p6 p7 p8 : Pos} {ta : TA} {pl : Sem Bool}
    (hB : supB P K x fld qual = true) (hW : supW K (He.ga K x) = (some ("__init__", qual, params, FuncBody.stmts [.Expr (.Call (.Attribute (.Call (.Name "super" p0) [] [] p1) "__init__" p2) (a0 :: as) [] p3) p4, .Assign [.Attribute (.Name "self" p5) fld p6] (.Name p p8) p7], scope, mainGlobals, builtinsNs) : SupW))
    (hg : mg x = some (.ref (He.ga K x))) (S : SupS P params scope p) (hpd : (p == ("__debug__" : Str)) = false) (hpc : (p == ("__classdict__" : Str)) = false)
    (hbd : ∀ (doc pm : Value) (an : Option Addr) (cd ct : Value) (cc : Addr) (us : List Value), us.length = 2 → bindArgs (PySem.W.ksFn "__init__" qual params [.Expr (.Call (.Attribute (.Call (.Name "super" p0) [] [] p1) "__init__" p2) (a0 :: as) [] p3) p4, .Assign [.Attribute (.Name "self" p5) fld p6] (.Name p p8) p7] scope .none .none doc pm an cd ct cc) ⟨us, []⟩ = pure ([("self" : Str), p].zip us))
    (ha : ∀ f cd cc A outer s H E, PA (cxS (L2N.CX P w) P w K mg base ["self", p] qual scope f cd cc A outer s H E) (a0 :: as) ta)
    (hta : ∀ a y H Q', c y → (∀ ms : List V, ms.length ≤ 1000 → Q' ms H) → ta (start ["self", p] [.ref a, y]) H Q')
    (hcl : ∀ env : Env, eval (.Call (.Attribute (.Call (.Name "super" p0) [] [] p1) "__init__" p2) (a0 :: as) [] p3) env = (do
      let ov ← attributeBase (.Call (.Name "super" p0) [] [] p1) "__init__" env (eval (.Call (.Name "super" p0) [] [] p1) env)
      standAt p2.atName
      let (f, first) ← holding [ov] (getMethod ov "__init__" pl)
      callWith p3 f first (backTo p3 (starEach (a0 :: as) env)) []) := by intro _; rfl)
    (hst : ∀ env : Env, starEach (a0 :: as) env = (false, eval a0 env) :: starEach as env := by intro _; rfl) (hpl : ∀ env : Env, (backTo p3 (starEach as env)).any (·.1) = false := by intro _; rfl)
    (hsw0 : ∀ (n : Nat) (env : Env), swapsWith (.Call (.Attribute (.Call (.Name "super" p0) [] [] p1) "__init__" p2) (a0 :: as) [] p3) none n env = pure false := by intro _ _; rfl)
    (hsw : ∀ env : Env, swapsWith (.Name p p8) (some (.Attribute (.Name "self" p5) fld p6)) p7.line env = pure false := by intro _; rfl) : ErrC P w K mg base x fld c := by
  obtain ⟨fd, T, hf, doc, pm, an, cd, ct, cc, rfl⟩ := supB_ok hB hW
  refine ⟨T.ox, hg, _, _, p, T.iC, T.tI, (sup_ok (k := 0) T S hf hpd hpc ha hcl hst hpl hsw0 hsw).imp fun vs H Q E h => ?_, Binds.all fun us hl => hbd _ _ _ _ _ _ us hl⟩
  obtain ⟨a, y, rfl, ea, hc, h⟩ := h
  exact ⟨a, y, rfl, ea, fun Q' k => hta a y H Q' hc k, h⟩
end
/-- the class called: a new error whose context is None -/
theorem pmkN {X : Cx} {x : Str} {e : Expr} {es : List Expr} {ta : TA} {pn pc : Pos} {C fI : Addr} {k : Nat} {fd : FuncData} {ps : List Str} {sp : Sp} (T : OexC X.K C) (iC : PySem.W.findIn X.K (.ref C) "__init__" = some (some (.ref fI)))
    (tI : PySem.W.typeIn X.K (.ref fI) = some (.type "function")) (F1 : FnOk X.prog X.w X.K X.mg X.base (L2N.CX X.prog X.w) k fI fd ps sp) (hr : Room (k + 1) X.A) (hb : Binds X.K fd ps []) (hg : Gl X x) (hm : X.mg x = some (.ref C))
    (ha : PA X (e :: es) ta) (hdb : (x == ("__debug__" : Str)) = false) (he : starEach (e :: es) X.env = (false, eval e X.env) :: starEach es X.env) (hpl : (backTo pc (starEach es X.env)).any (·.1) = false) :
    L2N.PMk X (.Call (.Name x pn) (e :: es) [] pc) (tMkO C sp [] ta) := by
  intro pins s0 σ H Q I0 want
  obtain ⟨nm, q, N, bs, bm, sn, sub, ab, col, dd, k0, k1, k2, k3, k5, hC, hbm⟩ := T.cls
  refine wpAny_Call_Name_kw (ld_glob I0 hg hm ?_ hdb)
  refine PySem.W.callWith_K (h₀ := X.base) I0.ok.mod.kin T.kC ?_ he hpl
  refine thn (ha.run pc pins s0 σ H _ I0 want) fun us s1 ⟨vs, H1, I1, r1, hz, q1⟩ => ⟨I1.kIn, ?_⟩
  obtain ⟨hp, g, dr, tk, os⟩ := s1
  have hn : H1 (hp.objs.size + 1) = none := I1.hok.fresh (Nat.le_succ _)
  have hq := q1 _ hn
  have kk : ∀ b o, hp.get? b = some o → ((hp.push (PySem.W.kdv_tup us)).push (PySem.HandSPX.excO C hp.objs.size)).get? b = some o := fun b o z => Heap.get?_push_of_some _ (Heap.get?_push_of_some _ z)
  have at1 : ((hp.push (PySem.W.kdv_tup us)).push (PySem.HandSPX.excO C hp.objs.size)).get? (hp.objs.size + 1) = some (PySem.HandSPX.excO C hp.objs.size) := by heap_get
  have I2 := I1.laid (t' := tk) (a := hp.objs.size + 1) (o := exo (hp.objs.size + 1) C none) kk (Nat.le_succ _) (exo_ok at1)
  have hl : (Value.ref (hp.objs.size + 1) :: us ++ []).length = ps.length := by
    have z : Vals (V.ref (hp.objs.size + 1) :: (vs ++ [])) (Value.ref (hp.objs.size + 1) :: (us ++ [])) := Paired.cons (show RelV (V.ref (hp.objs.size + 1)) (Value.ref (hp.objs.size + 1)) from rfl) (r1.append .nil)
    exact z.length.symm.trans (F1.len _ _ _ _ hq)
  have hus : us.length ≤ sizeLine := by
    rw [← Paired.length r1, sizeLine_eq]
    omega
  show wpAny _ _ (call (.ref C) us) _ _ _
  refine wpAny_call (PySem.HandSPX.call_own F.excBase_ValueError (fun Y => PySem.HandSPX.refsVE_contains Y bm hbm) (I1.kIn _ _ hC) (PySem.W.looks_findIn I1.kIn iC) (fun self => PySem.W.bind_fn I1.kIn self tI) hus ?_)
  have r2 : Vals (V.ref (hp.objs.size + 1) :: (vs ++ [])) (Value.ref (hp.objs.size + 1) :: us ++ []) := Paired.cons (show RelV (V.ref (hp.objs.size + 1)) (Value.ref (hp.objs.size + 1)) from rfl) (r1.append .nil)
  have run := F1.run _ X.stack _ _ ⟨Value.ref (hp.objs.size + 1) :: us, []⟩ (Value.ref (hp.objs.size + 1) :: us ++ []) _ _ (fun _ _ _ => False) (hr.make C us []) (I2.env0.make C us []) (hb _ (Value.ref (hp.objs.size + 1) :: us) I2.kIn hl) r2 hq
  refine codeAny_mono run fun r s' hq' => ?_
  cases r with
  | error er => exact passN pins σ _ _ er s' I2 hq'
  | ok fl =>
    cases fl with
    | ret u =>
      obtain ⟨v, H2, os2, bare2, un2, hok2, rv, ev, d, fs, ea, ed, hd1, q2⟩ := hq'
      subst ev
      obtain ⟨h2, g2, d2, t2, os'⟩ := s'
      obtain ⟨t0, G, J, kG, ge, hoe, na⟩ := mk_end0 (d2 := d2) (t2 := t2) I1 (Nat.le_succ _) kk un2 hok2 os2 bare2 ea ed hd1
      refine ⟨rv, _, _, _, ⟨G, g2, d2, t2, os'⟩, _, .ref C, some d, rfl, J, kG, ge, hoe, ⟨rfl, rfl, fun ws z => ?_⟩, rfl, rfl, na, rfl, bare2, raises_own T.exC T.tyC, q2⟩
      cases z
      rfl
    | next => exact hq'.elim
    | brk => exact hq'.elim
    | cont => exact hq'.elim
/-- raise x(v) -/
def raiseM {R : Type} (c : Bool) (x f : String) (d : PyData) : Res R := guardR c (.err ⟨x, [(f, d)]⟩)
section
variable {X : Cx} {W : WX} {ρ : List Slot} {ρe : Option (List Slot)} {T S₁ B R : Type} [Rp T] [Dat T] {a : Expr} {rest : List Stmt} {pos p1 p2 : Pos} {lv : Nat} {cls fld : String} {c : V → Prop} {cb : T → Bool} {m : Res T} {n : S₁ → List Slot} {b : B → List Slot} {Z : Rt R}
theorem raise_core (C : CtxOk X W lv) (Ec : ErrC X.prog X.w X.K X.mg X.base (Str.ofString cls) (Str.ofString fld) c) (h : EG X W true ρ a m) (hc : ∀ (K : PySem.W.Frag) (H : Hp) (y : V) (v : T), rp K H y v → cb v = true → c y) (hk : 2 ≤ lv) (w : WkO ρ ρe)
    (hg : Gl X (Str.ofString cls)) (hdb : ((Str.ofString cls) == ("__debug__" : Str)) = false) (he : starEach (a :: []) X.env = (false, eval a X.env) :: starEach [] X.env) (hpl : (backTo p2 (starEach [] X.env)).any (·.1) = false) :
    ∃ t, PS X (.Raise (some (.Call (.Name (Str.ofString cls) p1) [a] [] p2)) none pos) t ∧ ∀ (S own : List Addr) (σ : St) (H : Hp) (D : Ends) (U : Type) (P : U → Prop), RS X.K S ρ σ H own → Post (m.bind fun v => raiseM (R := U) (cb v) cls fld (Dat.toD v)) P (ErrS X.K W S own H ρe) → t D σ H := by
  obtain ⟨ta, pa, qa⟩ := h.ex
  obtain ⟨fI, fd, p, iC, tI, F1, hb⟩ := Ec.ex
  refine ⟨_, L2N.ps_raise C.calm C.tk (pmkN Ec.ox iC tI F1 (C.room.mono hk) hb hg Ec.gl (pa_cons pa pa_nil he) hdb he hpl), fun S own σ H D U P rs hp => ?_⟩
  refine qa S own σ H _ rs (hp.bind.imp (fun v hv H1 y s1 r1 => ?_) fun _ z => z.toX rs w)
  obtain ⟨hcb, hx⟩ := Post.guard hv
  refine ⟨by show 1 ≤ 1000; decide, fun a2 na => ⟨a2, y, rfl, upd_same, hc _ _ _ _ r1 hcb, fun dx nd dne => ⟨rfl, dx, [(Str.ofString fld, y)], upd_same, ?_, ?_, ?_⟩⟩⟩
  · rw [upd_ne dne, upd_same]
  · rw [upd_ne dne] at nd; exact nd
  · have nd1 : H1 dx = none := by rw [upd_ne dne] at nd; exact nd
    have sm : Same H1 (upd (del (upd (upd (upd H1 a2 (exo a2 (He.ga X.K (Str.ofString cls)) none)) dx (exd dx [(Str.ofString fld, y)])) a2 (exo a2 (He.ga X.K (Str.ofString cls)) (some dx))) a2) dx (.xd [(Str.ofString fld, y)])) := fun b o e => by
      have n1 : b ≠ a2 := fun z => by rw [z, na] at e; cases e
      have n2 : b ≠ dx := fun z => by rw [z, nd1] at e; cases e
      rw [upd_ne n2, del_ne n1, upd_ne n1, upd_ne n2, upd_ne n1]
      exact e
    have nin : dx ∉ S ++ own := fun z => by
      have q := rs.dom dx z
      cases e : H dx with
      | none => exact q e
      | some o =>
        have := s1 _ _ e
        rw [nd1] at this
        cases this
    have r2 : rp X.K (hide (S ++ own) H1) y v := r1
    have pd := Dat.dp (Rp.mono (hide_same (B := S ++ own) sm) r2)
    refine (ErrS.toX hx rs w) _ _ _ (s1.trans sm) ⟨rfl, dx, [(Str.ofString fld, y)], rfl, ?_, Paired.cons (a := (Str.ofString fld, y)) (b := (fld, Dat.toD v)) ⟨rfl, pd⟩ .nil⟩
    rw [hide_out nin]
    exact upd_same
theorem r_raise (C : CtxOk X W lv) (Ec : ErrC X.prog X.w X.K X.mg X.base (Str.ofString cls) (Str.ofString fld) c) (h : EG X W true ρ a m) (hc : ∀ (K : PySem.W.Frag) (H : Hp) (y : V) (v : T), rp K H y v → cb v = true → c y) (hk : 2 ≤ lv := by decide) (w : WkO ρ ρe := by first | exact True.intro | (repeat (first | exact Wk.nil | refine Wk.s ?_ | refine Wk.n ?_)))
    (hg : Gl X (Str.ofString cls) := by rfl) (hdb : ((Str.ofString cls) == ("__debug__" : Str)) = false := by decide) (he : starEach (a :: []) X.env = (false, eval a X.env) :: starEach [] X.env := by rfl) (hpl : (backTo p2 (starEach [] X.env)).any (·.1) = false := by rfl) :
    SR X W ρe ρ (.Raise (some (.Call (.Name (Str.ofString cls) p1) [a] [] p2)) none pos :: rest) Z (m.bind fun v => raiseM (cb v) cls fld (Dat.toD v)) := by
  obtain ⟨t, p, q⟩ := raise_core (pos := pos) (p1 := p1) (ρe := ρe) C Ec h hc hk w hg hdb he hpl
  exact ⟨_, pss_cons p pss_never, fun S own σ H D rs hp => q S own σ H _ R _ rs hp⟩
theorem b_raise (C : CtxOk X W lv) (Ec : ErrC X.prog X.w X.K X.mg X.base (Str.ofString cls) (Str.ofString fld) c) (h : EG X W true ρ a m) (hc : ∀ (K : PySem.W.Frag) (H : Hp) (y : V) (v : T), rp K H y v → cb v = true → c y) (hk : 2 ≤ lv := by decide) (w : WkO ρ ρe := by first | exact True.intro | (repeat (first | exact Wk.nil | refine Wk.s ?_ | refine Wk.n ?_)))
    (hg : Gl X (Str.ofString cls) := by rfl) (hdb : ((Str.ofString cls) == ("__debug__" : Str)) = false := by decide) (he : starEach (a :: []) X.env = (false, eval a X.env) :: starEach [] X.env := by rfl) (hpl : (backTo p2 (starEach [] X.env)).any (·.1) = false := by rfl) :
    SN X W ρe ρ (.Raise (some (.Call (.Name (Str.ofString cls) p1) [a] [] p2)) none pos :: rest) n (m.bind fun v => raiseM (cb v) cls fld (Dat.toD v)) := by
  obtain ⟨t, p, q⟩ := raise_core (pos := pos) (p1 := p1) (ρe := ρe) C Ec h hc hk w hg hdb he hpl
  exact ⟨_, pss_cons p pss_never, fun S own σ H D rs hp => q S own σ H _ S₁ _ rs hp⟩
theorem c_raise (C : CtxOk X W lv) (Ec : ErrC X.prog X.w X.K X.mg X.base (Str.ofString cls) (Str.ofString fld) c) (h : EG X W true ρ a m) (hc : ∀ (K : PySem.W.Frag) (H : Hp) (y : V) (v : T), rp K H y v → cb v = true → c y) (hk : 2 ≤ lv := by decide) (w : WkO ρ ρe := by first | exact True.intro | (repeat (first | exact Wk.nil | refine Wk.s ?_ | refine Wk.n ?_)))
    (hg : Gl X (Str.ofString cls) := by rfl) (hdb : ((Str.ofString cls) == ("__debug__" : Str)) = false := by decide) (he : starEach (a :: []) X.env = (false, eval a X.env) :: starEach [] X.env := by rfl) (hpl : (backTo p2 (starEach [] X.env)).any (·.1) = false := by rfl) :
    SC X W ρe ρ (.Raise (some (.Call (.Name (Str.ofString cls) p1) [a] [] p2)) none pos :: rest) n b Z (m.bind fun v => raiseM (cb v) cls fld (Dat.toD v)) := by
  obtain ⟨t, p, q⟩ := raise_core (pos := pos) (p1 := p1) (ρe := ρe) C Ec h hc hk w hg hdb he hpl
  exact ⟨_, pss_cons p pss_never, fun S own σ H D rs hp => q S own σ H _ (Ctl S₁ B R) _ rs hp⟩
end
end Py

set_option Elab.async false
set_option linter.all false
set_option maxRecDepth 100000
set_option maxHeartbeats 4000000
/-! Py, part X3: try .. except. -/
namespace Py
open PySem PySem.Spec L2
open Rp (rp)
theorem ofString_inj {a b : String} (h : Str.ofString a = Str.ofString b) : a = b := by
  rw [Str.ofString_eq_toList, Str.ofString_eq_toList] at h
  have h1 : a.toList.map Char.toNat = b.toList.map Char.toNat := by
    have h2 := congrArg (fun s : Str => s.1.toList) h
    simpa using h2
  have h3 : a.toList = b.toList := (List.map_inj_right (fun x y e => Char.ext (UInt32.toNat_inj.mp e))).mp h1
  exact String.toList_inj.mp h3
/-- a caught error, as the suite's name holds it: where it stands, where its dict stands, what it says -/
structure XV where
  a : Addr
  dx : Addr
  e : Ex
instance : Rp XV where
  rp K H v x := v = .ref x.a ∧ ∃ fs, H x.dx = some (.xd fs) ∧ Paired (fun (p : Str × V) (q : String × PyData) => p.1 = Str.ofString q.1 ∧ Dp K H p.2 q.2) fs x.e.fs
  mono s h := by
    obtain ⟨h1, fs, h2, h3⟩ := h
    exact ⟨h1, fs, s _ _ h2, Paired.imp2 h3 fun a b z => ⟨z.1, dp_same s z.2⟩⟩
/-- does the clause of class c take an error of class x? (all own classes stand flat under Fault) -/
def catches (c x : String) : Bool := c == "Fault" || x == c
def pickM {R : Type} (e : Ex) : List (String × (Ex → Res R)) → Res R
  | [] => .err e
  | (c, h) :: r => if catches c e.cls then (h e).quiet else pickM e r
def catchM {R : Type} (kn : List String) (hs : List (String × (Ex → Res R))) : Res R → Res R
  | .err e => if kn.contains e.cls then pickM e hs else .bad
  | .ok a => .ok a
  | .bad => .bad
def fldD (e : Ex) (f : String) : Res PD := match e.fs.lookup f with
  | some d => .ok ⟨d⟩
  | none => .bad
section
variable {S₁ B R : Type} {X : Cx} {W : WX} {ρe : Option (List Slot)} {ρ ρh : List Slot} {n : S₁ → List Slot} {b : B → List Slot} {Z : Rt R} {body : List Stmt} {lv : Nat}
/-- what a block's judgement says, as a reading -/
def semC (K : PySem.W.Frag) (W : WX) (ρe : Option (List Slot)) (ρ : List Slot) (n : S₁ → List Slot) (b : B → List Slot) (Z : Rt R) (m : Res (Ctl S₁ B R)) : TS := fun D σ H =>
  ∃ S own, RS K S ρ σ H own ∧ Post m (CtlP K S own H D n b Z) (ErrS K W S own H ρe)
theorem SC.sem {m : Res (Ctl S₁ B R)} (h : SC X W ρe ρ body n b Z m) : PSs X body (semC X.K W ρe ρ n b Z m) := by
  refine ⟨fun pins s σ H D I q => ?_⟩
  obtain ⟨S, own, rs, hp⟩ := q
  obtain ⟨t, p, k⟩ := h.ex
  exact p.run pins s σ H D I (k S own σ H D rs hp)
theorem Post.quiet_to {α : Type} {m : Res α} {P : α → Prop} {E E' : Ex → Prop} (h : Post m.quiet P E) : Post m P E' := by
  cases m with
  | ok a => exact h
  | err e => exact h.elim
  | bad => exact h.elim
/-- the context of a try's body -/
theorem CtxOk.tr (C : CtxOk X W lv) {W' : WX} {pn : List (Addr × Obj)} {xe : Value → Shared → Prop} (tk : L2N.Takes (X.tr pn xe) W') (po : PassesOwn (model X.prog X.w) X.A X.env xe) : CtxOk (X.tr pn xe) W' lv :=
  ⟨C.calm, C.nd, tk, po, C.room⟩
/-- what stands of the suite's context -/
structure SuOk (X : Cx) (a dx : Addr) (e : Ex) (oe : Obj) : Prop where
  z : L2N.Zn (.ref (He.ga X.K (Str.ofString e.cls))) (some dx) oe
  f : ∃ vs, oe.data = .fields vs
/-- the facts of the classes -/
structure ExmK (K : PySem.W.Frag) (mg : Str → Option Value) (kn : List String) : Prop where
  exm : ∀ x ∈ kn, ∀ c ∈ "Fault" :: kn, PySem.W.exmOne K (.ref (He.ga K (Str.ofString x))) (.ref (He.ga K (Str.ofString c))) = some (catches c x)
  gl : ∀ c ∈ "Fault" :: kn, mg (Str.ofString c) = some (.ref (He.ga K (Str.ofString c)))
  xf : ∀ x ∈ kn, XfC K (He.ga K (Str.ofString x))
  kit : ∀ x ∈ kn, ∀ c ∈ "Fault" :: kn, PySem.W.kitOne K (.ref (He.ga K (Str.ofString x))) (.ref (He.ga K (Str.ofString c))) = some (catches c x)
  kitV : ∀ x ∈ kn, PySem.W.kitOne K (.ref (He.ga K (Str.ofString x))) (.type "ValueError") = some true
  isc : ∀ x ∈ kn, ExcC K (He.ga K (Str.ofString x))
theorem RS.gone {K : PySem.W.Frag} {S own : List Addr} {ρ : List Slot} {σ : St} {H : Hp} (i : Nat) (h : RS K S ρ σ H own) (hi : ρ.set i .non = ρ) : RS K S ρ (σ.set i none) H own := by
  obtain ⟨⟨ads, r, nd, sub⟩, o, d⟩ := h
  obtain ⟨ads', r', sl⟩ := r.forget (o := none) i
  rw [hi] at r'
  exact ⟨⟨ads', r', nd.sublist sl, fun a ha => sub a (sl.subset ha)⟩, o, d⟩
theorem CtlP.unset {K : PySem.W.Frag} {S own : List Addr} {H : Hp} {D : Ends} {z : Ctl S₁ B R} (i : Nat) (hn : ∀ s, (n s).set i .non = n s) (hb : ∀ s, (b s).set i .non = b s) (h : CtlP K S own H D n b Z z) :
    CtlP K S own H { nx := fun σ' H' => D.nx (σ'.set i none) H', rt := D.rt, bk := fun σ' H' => D.bk (σ'.set i none) H', ct := fun σ' H' => D.ct (σ'.set i none) H' } n b Z z := by
  cases z with
  | nx s => exact fun σ' H' own' x r => h _ H' own' x (r.gone i (hn s))
  | rt r => exact h
  | bk s => exact fun σ' H' own' x r => h _ H' own' x (r.gone i (hb s))
  | ct s => exact fun σ' H' own' x r => h _ H' own' x (r.gone i (hb s))
/-- try: body / except c as x: suite -/
theorem x_try_as (i : Nat) {kn : List String} {c : String} {x : Str} {b₀ : Stmt} {suite : List Stmt} {np pos pos' : Pos} {m : Res (Ctl S₁ B R)} {h : Ex → Res (Ctl S₁ B R)} (C : CtxOk X W lv) (EK : ExmK X.K X.mg kn)
    (hb : ∀ (W' : WX) (pn : List (Addr × Obj)) (xe : Value → Shared → Prop), CtxOk (X.tr pn xe) W' lv → SC (X.tr pn xe) W' (some ρh) ρ body n b Z m)
    (hsu : ∀ (a dx : Addr) (e : Ex) (oe : Obj) (pn : List (Addr × Obj)), SuOk X a dx e oe → e.cls ∈ kn → catches c e.cls = true → SC (X.suite a ((a, oe) :: pn)) (fun _ _ _ _ => False) none (ρh.set i (.val XV ⟨a, dx, e⟩)) (b₀ :: suite) n b Z (h e))
    (hc : c ∈ "Fault" :: kn := by decide) (w : WkO ρh ρe := by first | exact True.intro | (repeat (first | exact Wk.nil | refine Wk.s ?_ | refine Wk.n ?_))) (hn : ∀ s, (n s).set i .non = n s := by intro s; first | rfl | cases s) (hbn : ∀ s, (b s).set i .non = b s := by intro s; first | rfl | cases s)
    (hi : X.N[i]? = some x := by rfl) (hln : X.env.kindOf x = some .local := by rfl) (hg : Gl X (Str.ofString c) := by rfl) (hdb : ((Str.ofString c) == ("__debug__" : Str)) = false := by decide) (hs : X.stack = X.env :: X.outer := by rfl) (hf : X.env.frame = some X.env.locals := by rfl) :
    C1 X W ρe ρ (.Try body [.ExceptHandler (some (.Name (Str.ofString c) np)) (some x) (b₀ :: suite) pos'] [] [] pos) n b Z (catchM kn [(c, h)] m) := by
  refine ⟨_, L2N.ps_try_as (tb := fun W' => semC X.K W' (some ρh) ρ n b Z m) (ts := fun a cls d D σ H => ∃ dx e, cls = .ref (He.ga X.K (Str.ofString e.cls)) ∧ d = some dx ∧ e.cls ∈ kn ∧ catches c e.cls = true ∧ semC X.K (fun _ _ _ _ => False) none (ρh.set i (.val XV ⟨a, dx, e⟩)) n b Z (h e) D σ H) hs hf C.nd hi hln ⟨hg, hdb, .inl (EK.gl c hc)⟩ C.tk
    (fun W' pn xe tk po => (hb W' pn xe (C.tr tk po)).sem) (fun a oe cls d pn z f => ⟨fun pins s σ H D I q => ?_⟩), fun S own σ H D rs hp => ⟨S, own, rs, ?_⟩⟩
  · obtain ⟨dx, e, rfl, rfl, hk, hcc, q⟩ := q
    exact (hsu a dx e oe pn ⟨z, f⟩ hk hcc).sem.run pins s σ H D I q
  · cases m with
    | ok z => exact hp
    | bad => exact hp
    | err e =>
      intro σ' H' own' cls d x' r q
      obtain ⟨rfl, dx, fs, rfl, q3, q4⟩ := q
      have hp' : Post (if kn.contains e.cls then pickM e [(c, h)] else .bad) (CtlP X.K S own H D n b Z) (ErrS X.K W S own H ρe) := hp
      cases hk : kn.contains e.cls with
      | false => rw [hk] at hp'; exact hp'.elim
      | true =>
        rw [hk] at hp'
        have hk' : e.cls ∈ kn := List.contains_iff_mem.mp hk
        refine ⟨catches c e.cls, EK.exm _ hk' _ hc, fun hcc a na => ⟨dx, e, rfl, rfl, hk', hcc, S, own', ?_, ?_⟩, fun hcc => ?_⟩
        · have rv : rp X.K (hide (S ++ own') H') (V.ref a) (XV.mk a dx e) := ⟨rfl, fs, q3, q4⟩
          exact (r _ rfl).set rv i
        · have hp2 : Post (if catches c e.cls then (h e).quiet else pickM e []) (CtlP X.K S own H D n b Z) (ErrS X.K W S own H ρe) := hp'
          rw [if_pos hcc] at hp2
          exact (hp2.quiet_to (E' := fun _ => False)).imp (fun z hz => (hz.mono x').unset i hn hbn) fun _ z => z.elim
        · have hp2 : Post (if catches c e.cls then (h e).quiet else pickM e []) (CtlP X.K S own H D n b Z) (ErrS X.K W S own H ρe) := hp'
          rw [if_neg (by rw [hcc]; exact Bool.false_ne_true)] at hp2
          have hp3 : ErrS X.K W S own H ρe e := hp2
          exact hp3 σ' H' own' _ _ x' (fun r' er => by subst er; exact (r _ rfl).wk w) ⟨rfl, dx, fs, rfl, q3, q4⟩

/-! several clauses without names -/
inductive HdJ (X : Cx) (kn : List String) (ρh : List Slot) (n : S₁ → List Slot) (b : B → List Slot) (Z : Rt R) : List ExceptHandler → List (String × (Ex → Res (Ctl S₁ B R))) → Prop
  | nil : HdJ X kn ρh n b Z [] []
  | cons {c : String} {b₀ : Stmt} {suite : List Stmt} {np pos' : Pos} {h : Ex → Res (Ctl S₁ B R)} {hds : List ExceptHandler} {r : List (String × (Ex → Res (Ctl S₁ B R)))} (hc : c ∈ "Fault" :: kn) (hg : Gl X (Str.ofString c)) (hdb : ((Str.ofString c) == ("__debug__" : Str)) = false)
      (hsu : ∀ (a dx : Addr) (e : Ex) (oe : Obj) (pn : List (Addr × Obj)), SuOk X a dx e oe → e.cls ∈ kn → catches c e.cls = true → SC (X.suite a ((a, oe) :: pn)) (fun _ _ _ _ => False) none ρh (b₀ :: suite) n b Z (h e)) (q : HdJ X kn ρh n b Z hds r) :
      HdJ X kn ρh n b Z (.ExceptHandler (some (.Name (Str.ofString c) np)) none (b₀ :: suite) pos' :: hds) ((c, h) :: r)
theorem h_cons {kn : List String} {c : String} {b₀ : Stmt} {suite : List Stmt} {np pos' : Pos} {h : Ex → Res (Ctl S₁ B R)} {hds : List ExceptHandler} {r : List (String × (Ex → Res (Ctl S₁ B R)))}
    (hsu : ∀ (a dx : Addr) (e : Ex) (oe : Obj) (pn : List (Addr × Obj)), SuOk X a dx e oe → e.cls ∈ kn → catches c e.cls = true → SC (X.suite a ((a, oe) :: pn)) (fun _ _ _ _ => False) none ρh (b₀ :: suite) n b Z (h e)) (q : HdJ X kn ρh n b Z hds r)
    (hc : c ∈ "Fault" :: kn := by decide) (hg : Gl X (Str.ofString c) := by rfl) (hdb : ((Str.ofString c) == ("__debug__" : Str)) = false := by decide) : HdJ X kn ρh n b Z (.ExceptHandler (some (.Name (Str.ofString c) np)) none (b₀ :: suite) pos' :: hds) ((c, h) :: r) :=
  .cons hc hg hdb hsu q
def lsem (K : PySem.W.Frag) (kn : List String) (ρh : List Slot) (n : S₁ → List Slot) (b : B → List Slot) (Z : Rt R) (hs : List (String × (Ex → Res (Ctl S₁ B R)))) : List (Value × (Addr → Value → Option Addr → TS)) :=
  hs.map fun p => (.ref (He.ga K (Str.ofString p.1)), fun _ cls d D σ H => ∃ dx e, cls = .ref (He.ga K (Str.ofString e.cls)) ∧ d = some dx ∧ e.cls ∈ kn ∧ catches p.1 e.cls = true ∧ semC K (fun _ _ _ _ => False) none ρh n b Z (p.2 e) D σ H)
theorem HdJ.hds {kn : List String} {hds : List ExceptHandler} {hs : List (String × (Ex → Res (Ctl S₁ B R)))} (EK : ExmK X.K X.mg kn) (j : HdJ X kn ρh n b Z hds hs) : L2N.HdsOk X hds (lsem X.K kn ρh n b Z hs) := by
  induction j with
  | nil => exact .nil
  | @cons c b₀ suite np pos' h hds r hc hg hdb hsu _ ih =>
    refine .cons ⟨hg, hdb, .inl (EK.gl c hc)⟩ (fun a oe cls d pn z f => ⟨fun pins s σ H D I q => ?_⟩) ih
    obtain ⟨dx, e, rfl, rfl, hk, hcc, q⟩ := q
    exact (hsu a dx e oe pn ⟨z, f⟩ hk hcc).sem.run pins s σ H D I q
theorem x_try {kn : List String} {h₀ : ExceptHandler} {hds : List ExceptHandler} {hs : List (String × (Ex → Res (Ctl S₁ B R)))} {pos : Pos} {m : Res (Ctl S₁ B R)} (C : CtxOk X W lv) (EK : ExmK X.K X.mg kn)
    (hb : ∀ (W' : WX) (pn : List (Addr × Obj)) (xe : Value → Shared → Prop), CtxOk (X.tr pn xe) W' lv → SC (X.tr pn xe) W' (some ρh) ρ body n b Z m)
    (j : HdJ X kn ρh n b Z (h₀ :: hds) hs) (w : WkO ρh ρe := by first | exact True.intro | (repeat (first | exact Wk.nil | refine Wk.s ?_ | refine Wk.n ?_))) (hst : X.stack = X.env :: X.outer := by rfl) (hf : X.env.frame = some X.env.locals := by rfl) :
    C1 X W ρe ρ (.Try body (h₀ :: hds) [] [] pos) n b Z (catchM kn hs m) := by
  refine ⟨_, L2N.ps_try_many (tb := fun W' => semC X.K W' (some ρh) ρ n b Z m) hst hf C.tk (fun W' pn xe tk po => (hb W' pn xe (C.tr tk po)).sem) (j.hds EK), fun S own σ H D rs hp => ⟨S, own, rs, ?_⟩⟩
  cases m with
  | ok z => exact hp
  | bad => exact hp
  | err e =>
    intro σ' H' own' cls d x' r q
    have q0 := q
    obtain ⟨rfl, dx, fs, rfl, q3, q4⟩ := q0
    have hp' : Post (if kn.contains e.cls then pickM e hs else .bad) (CtlP X.K S own H D n b Z) (ErrS X.K W S own H ρe) := hp
    cases hk : kn.contains e.cls with
    | false => rw [hk] at hp'; exact hp'.elim
    | true =>
      rw [hk] at hp'
      have hk' : e.cls ∈ kn := List.contains_iff_mem.mp hk
      have hp2 : Post (pickM e hs) (CtlP X.K S own H D n b Z) (ErrS X.K W S own H ρe) := hp'
      have key : ∀ {hds : List ExceptHandler} {hs : List (String × (Ex → Res (Ctl S₁ B R)))}, HdJ X kn ρh n b Z hds hs → Post (pickM e hs) (CtlP X.K S own H D n b Z) (ErrS X.K W S own H ρe) → wMany X.K W D (lsem X.K kn ρh n b Z hs) (.ref (He.ga X.K (Str.ofString e.cls))) (some dx) σ' H' := by
        intro hds hs j hp
        induction j with
        | nil =>
          have hp3 : ErrS X.K W S own H ρe e := hp
          exact hp3 σ' H' own' _ _ x' (fun r' er => by subst er; exact (r _ rfl).wk w) ⟨rfl, dx, fs, rfl, q3, q4⟩
        | @cons c b₀ suite np pos' h hds r0 hc hg hdb hsu _ ih =>
          have hp2 : Post (if catches c e.cls then (h e).quiet else pickM e r0) (CtlP X.K S own H D n b Z) (ErrS X.K W S own H ρe) := hp
          refine ⟨catches c e.cls, EK.exm _ hk' _ hc, fun hcc a na => ⟨dx, e, rfl, rfl, hk', hcc, S, own', r _ rfl, ?_⟩, fun hcc => ?_⟩
          · rw [if_pos hcc] at hp2
            exact (hp2.quiet_to (E' := fun _ => False)).imp (fun z hz => hz.mono x') fun _ z => z.elim
          · rw [if_neg (by rw [hcc]; exact Bool.false_ne_true)] at hp2
            exact ih hp2
      exact key j hp2
/-! isinstance of a caught error that has its dict -/
section
open PySem.W PyProof.Rows
theorem find_cls {K : PySem.W.Frag} {C : Addr} {od : Option Obj} {name : Str} {a g : Value} (hc : (clsIn K C).isSome = true) (ha : findIn K (.ref C) name = some (some a)) (hg : specialIn K a "__get__" = some (some g)) (ht : takesIn K a = some true) : findObj K C od name = some (.bind g a) := by
  rcases Option.isSome_iff_exists.mp hc with ⟨cd, q⟩
  unfold findObj
  rw [q, Option.bind_some, ha, Option.bind_some]
  simp [hg, ht]
theorem cls_of_err {prog : Program} {w : World} {A : Around} {E : Value → Shared → Prop} {s : Shared} {K : PySem.W.Frag} {x D : Addr} {ox : Obj} {od : Option Obj} {Q : Option Value → Shared → Prop} (T : ExcC K D) (X : K.In s.heap) (I : PySem.W.InstAt s.heap x ox D od)
    (h : Q (some (.ref D)) { s with toks := s.toks + 1 }) : wpAny (model prog w) A (getAttr? (.ref x) "__class__") Q E s := by
  have fnd : findObj K D od "__class__" = some (.bind (.builtin "getset_descriptor.__get__") (.builtin "object.__class__")) := find_cls (by rcases any_some T.hd with ⟨cd, hc, _⟩; rw [hc]; rfl) T.ha T.hn T.ht
  rcases s with ⟨hp, g, d, t, os⟩
  have l0 := I.type (M := model prog w)
  have l1 := looks_findIn (M := model prog w) X T.hg
  have l2 := looks_findIn (M := model prog w) X T.hk
  have l3 := looks_find (M := model prog w) X I fnd
  have isE : PySem.W.Looks (model prog w) hp (isInstance (.ref x) (.type "BaseException")) true := l0.andThen (looks_subIn X T.hs)
  have n0 : (false && onTheHeap (Value.builtin "BaseException.__getattribute__")) = false := rfl
  have n2 : (Value.builtin "BaseException.__getattribute__" == Value.builtin "object.__getattribute__") = false := by decide +kernel
  have n1 : (onTheHeap (Value.ref D) && Value.builtin "BaseException.__getattribute__" == Value.builtin "object.__getattribute__") = false := by rw [n2]; rfl
  unfold getAttr? getAttrBy? getAttrBy
  refine wpAny_bind (wpAny_mkText (wpAny_bind (wpAny_attempt (wpAny_holding (wpAny_bind (l0.at
    (wpAny_bind (l1.at ?_))))))))
  show wpAny _ _ (if (onTheHeap (Value.ref D) && Value.builtin "BaseException.__getattribute__" == Value.builtin "object.__getattribute__") = true then _ else _) _ _ _
  rw [n1, if_neg Bool.false_ne_true]
  unfold getAttrByItsOwn hookBefore
  refine wpAny_bind ?_
  rw [if_pos (show onTheHeap (Value.ref D) = true from rfl)]
  refine l2.at (wpAny_bind (wpAny_attempt
    (wpAny_holding ?_)))
  unfold callGetattribute
  rw [n0, if_neg Bool.false_ne_true]
  unfold boundAndCalled
  rw [PySem.F.excAttr_ValueError.ga.bind (.ref x)]
  refine wpAny_bind
    (wpAny_pure ?_)
  show wpAny _ _ (call (.builtin "BaseException.__getattribute__") [.ref x, .str "__class__" t]) _ _ _
  refine wpAny_call (codeAny_call_builtin PySem.F.excAttr_ValueError.ga.plain PySem.F.entry_bexc_ga (@check_slot (model prog w) _ _ ⟨hp, g, d, t + 1, os⟩ "BaseException.__getattribute__" "BaseException" "__getattribute__" (.ref x) [.str "__class__" t] [] _ (by decide +kernel) (by decide +kernel) isE (PySem.F.args_bexc_ga (.ref x) (.str "__class__" t)) ?_))
  unfold Builtin.«object.__getattribute__»
  refine wpAny_bind (wpAny_of_eq (a := ((Value.ref x : Value), [Value.str "__class__" t])) (by first | rfl | (simp only [slotArgs]; rfl)) ?_)
  refine wpAny_bind (wpAny_pure
    (wpAny_bind (l0.at (wpAny_bind (l3.at ?_)))))
  show wpAny _ _ (holding [Value.builtin "object.__class__"] (call (.builtin "getset_descriptor.__get__") [.builtin "object.__class__", .ref x, .ref D]) >>= ret) _ _ _
  refine wpAny_bind (wpAny_holding ?_)
  refine wpAny_call (class_get (s := ⟨hp, g, d, t + 1, os⟩) (ox := ox) (od := od) X I T.hm ?_)
  refine wpAny_pure ?_
  show wpAny _ _ (handedOut (.ref D)) _ _ _
  rw [handedOut_of (v := .ref D) rfl]
  first
    | exact wpAny_pure h
    | exact wpAny_pure (wpAny_pure h)
    | exact wpAny_pure (wpAny_bind (wpAny_pure (wpAny_pure h)))
theorem cls_entry {K : PySem.W.Frag} {D : Addr} (T : ExcC K D) : ∃ c d cd sl, K.lookup D = some ⟨c, d, .cls cd, sl⟩ := by
  rcases any_some T.hd with ⟨cdD, q, _⟩
  unfold clsIn at q
  split at q
  · rename_i c d cd sl ho
    exact ⟨c, d, cd, sl, ho⟩
  · cases q
theorem kit_err {K : PySem.W.Frag} {x D : Addr} {ox : Obj} (T : ExcC K D) : KitX K (.ref x) (.ref D) (fun h => ∃ od, PySem.W.InstAt h x ox D od) where
  ty := fun _ _ _ ⟨_, I⟩ => I.type
  it := fun _ _ X _ => by
    rcases cls_entry T with ⟨c, d, cd, sl, q⟩
    intro A' Q' E' s' k z
    unfold isType loadHead
    exact wpAny_bind (wpAny_loadPart (k _ _ (X _ _ q)) (wpAny_pure z))
  ne := fun h tp dd its n sl X htp => by
    refine Bool.eq_false_iff.mpr fun z => ?_
    have e : D = tp := Value.ref.inj (beq_iff_eq.mp z)
    subst e
    rcases cls_entry T with ⟨c, d, cd, sl', q⟩
    cases (X _ _ q).symm.trans htp
  ca := fun X ⟨_, I⟩ k => cls_of_err T X I k
end
/-- isinstance(e, c), e the caught error of class D, its dict at dx -/
def rIsD (K : PySem.W.Frag) (D a dx : Addr) : List V → Hp → VK → Prop := fun xs H Q => ∃ (c : V) (cv : Value) (b : Bool) (fs : List (Str × V)), xs = [.ref a, c] ∧ (∀ u, RelV c u → u = cv) ∧ H dx = some (.xd fs) ∧ PySem.W.kitOne K (.ref D) cv = some b ∧ Q (.bl b) H
theorem call_isD {a dx : Addr} {e : Ex} {oe : Obj} {pn : List (Addr × Obj)} (T : ExcC X.K (He.ga X.K (Str.ofString e.cls))) (U : SuOk X a dx e oe) : CallR (X.suite a ((a, oe) :: pn)) (.builtin "isinstance") (rIsD X.K (He.ga X.K (Str.ofString e.cls)) a dx) := by
  intro pins s σ H xs us Q I r h
  rcases h with ⟨c, cv, b, fs, rfl, hcv, hd, q1, q⟩
  cases r with
  | cons rx rr =>
    cases rr with
    | cons rt rr =>
      cases rr
      cases rx
      have ec := hcv _ rt
      subst ec
      have at1 := (I.pin (a, oe) (List.mem_append.mpr (.inl List.mem_cons_self))).1
      rcases U.f with ⟨vs, hv⟩
      have hx : ObjOk X.prog X.w H s.heap dx (.xd fs) := I.hok dx _ hd
      rcases hx with ⟨mA, ⟨od, es, ep, ho, hr⟩, _⟩
      have J : PySem.W.InstAt s.heap a oe (He.ga X.K (Str.ofString e.cls)) (some od) := by
        refine ⟨at1, U.z.1, ?_, ?_⟩
        · unfold PySem.W.notCls
          rw [hv]
        · rw [U.z.2.1]
          exact ho
      exact PySem.W.kia_one (kit_err T) I.kIn ⟨_, J⟩ q1 (fun z => nomatch z) fun tk => ⟨.bl b, H, I.kept (t' := tk) fun _ _ z => z, rfl, q⟩
/-! in the suite: the error's fields, isinstance of it -/
theorem e_xfld (i : Nat) {a dx : Addr} {e : Ex} {oe : Obj} {pn : List (Addr × Obj)} {W' : WX} {g : Bool} {ρ : List Slot} {kn : List String} {f : String} {x : Str} {pos p2 : Pos} (EK : ExmK X.K X.mg kn) (U : SuOk X a dx e oe) (hk : e.cls ∈ kn)
    (hno : PySem.W.findIn X.K (.ref (He.ga X.K (Str.ofString e.cls))) (Str.ofString f) = some none) (hr : ρ[i]? = some (.val XV ⟨a, dx, e⟩) := by rfl)
    (hN : X.N[i]? = some x := by rfl) (hv : Vis X.env.scope x := by first | exact Or.inl rfl | exact Or.inr (Or.inl rfl) | exact Or.inr (Or.inr rfl)) (hd : (x == ("__debug__" : Str)) = false := by decide) (hcd : (x == ("__classdict__" : Str)) = false := by decide)
    (hbase : attributeBase (.Name x p2) (Str.ofString f) X.env (eval (.Name x p2) X.env) = eval (.Name x p2) X.env := by rfl) : EG (X.suite a ((a, oe) :: pn)) W' g ρ (.Attribute (.Name x p2) (Str.ofString f) pos) (fldD e f) := by
  refine ⟨_, pe_xf (EK.xf _ hk) hno U.z.zc U.f (pe_var (X := X.suite a ((a, oe) :: pn)) hN hv hd hcd) hbase, fun S own σ H Q rs h => ?_⟩
  obtain ⟨ads, r, _, _⟩ := rs.rs
  obtain ⟨u, eu, q⟩ := r.val_at hr
  obtain ⟨rfl, fs, q3, q4⟩ := q
  refine ⟨_, eu, rfl, rfl, dx, fs, ?_⟩
  have key : ∀ {fs : List (Str × V)} {es : List (String × PyData)}, Paired (fun (p : Str × V) (q : String × PyData) => p.1 = Str.ofString q.1 ∧ Dp X.K (hide (S ++ own) H) p.2 q.2) fs es → ∀ d, es.lookup f = some d → ∃ v, fs.lookup (Str.ofString f) = some v ∧ Dp X.K (hide (S ++ own) H) v d := by
    intro fs es h
    induction h with
    | nil => intro d z; cases z
    | @cons p q fs es hpq _ ih =>
      intro d z
      obtain ⟨h1, h2⟩ := hpq
      by_cases c : f = q.1
      · subst c
        have z' : List.lookup q.1 ((q.1, q.2) :: es) = some d := z
        simp [List.lookup] at z'
        subst z'
        exact ⟨p.2, by rw [show p = (p.1, p.2) from rfl, h1]; simp [List.lookup], h2⟩
      · have c1 : (f == q.1) = false := by simpa using c
        have z' : List.lookup f ((q.1, q.2) :: es) = some d := z
        rw [List.lookup, c1] at z'
        obtain ⟨v, e1, e2⟩ := ih d z'
        refine ⟨v, ?_, e2⟩
        have c2 : (Str.ofString f == p.1) = false := by
          rw [h1]
          have ne : Str.ofString f ≠ Str.ofString q.1 := fun z => c (ofString_inj z)
          simpa using ne
        show List.lookup (Str.ofString f) ((p.1, p.2) :: fs) = _
        rw [List.lookup, c2]
        exact e1
  unfold fldD at h
  cases hl : e.fs.lookup f with
  | none => rw [hl] at h; exact h.elim
  | some d =>
    rw [hl] at h
    obtain ⟨v, e1, e2⟩ := key q4 d hl
    refine ⟨v, rfl, hide_sub _ _ q3, e1, h H v (Same.refl H) (Rp.mono (T := PD) (hide_mono reg_sub) e2)⟩
theorem e_isx (i : Nat) {a dx : Addr} {e : Ex} {oe : Obj} {pn : List (Addr × Obj)} {W' : WX} {g : Bool} {ρ : List Slot} {kn : List String} {c : String} {x : Str} {p p2 p3 pos : Pos} (EK : ExmK X.K X.mg kn) (U : SuOk X a dx e oe) (hk : e.cls ∈ kn) (hm : X.mg "isinstance" = none)
    (hr : ρ[i]? = some (.val XV ⟨a, dx, e⟩) := by rfl) (hc : c ∈ "Fault" :: kn := by decide)
    (hN : X.N[i]? = some x := by rfl) (hv : Vis X.env.scope x := by first | exact Or.inl rfl | exact Or.inr (Or.inl rfl) | exact Or.inr (Or.inr rfl)) (hd : (x == ("__debug__" : Str)) = false := by decide) (hcd : (x == ("__classdict__" : Str)) = false := by decide)
    (hg : Gl X "isinstance" := by rfl) (hg2 : Gl X (Str.ofString c) := by rfl) (hdb : ((Str.ofString c) == ("__debug__" : Str)) = false := by decide)
    (he : starEach [.Name x p2, .Name (Str.ofString c) p3] X.env = (false, eval (.Name x p2) X.env) :: starEach [.Name (Str.ofString c) p3] X.env := by rfl) (he2 : starEach [.Name (Str.ofString c) p3] X.env = (false, eval (.Name (Str.ofString c) p3) X.env) :: starEach [] X.env := by rfl)
    (hpl : (backTo pos (starEach [.Name (Str.ofString c) p3] X.env)).any (·.1) = false := by rfl) :
    EG (X.suite a ((a, oe) :: pn)) W' g ρ (.Call (.Name "isinstance" p) [.Name x p2, .Name (Str.ofString c) p3] [] pos) (.ok (catches c e.cls)) := by
  refine ⟨_, pe_callB (X := X.suite a ((a, oe) :: pn)) (call_isD (EK.isc _ hk) U) hg hm (by decide +kernel) (pa_cons (pe_var (X := X.suite a ((a, oe) :: pn)) hN hv hd hcd) (pa_cons (pe_glob (X := X.suite a ((a, oe) :: pn)) (v := .ref (He.ga X.K (Str.ofString c))) hg2 (EK.gl c hc) rfl hdb) pa_nil he2) he) (by decide) (by decide) he hpl, fun S own σ H Q rs h => ?_⟩
  obtain ⟨ads, r, _, _⟩ := rs.rs
  obtain ⟨u, eu, q⟩ := r.val_at hr
  obtain ⟨rfl, fs, q3, q4⟩ := q
  exact ⟨_, eu, _, _, _, fs, rfl, fun u z => z, hide_sub _ _ q3, EK.kit _ hk c hc, h H _ (Same.refl H) rfl⟩
theorem e_isV (i : Nat) {a dx : Addr} {e : Ex} {oe : Obj} {pn : List (Addr × Obj)} {W' : WX} {g : Bool} {ρ : List Slot} {kn : List String} {x : Str} {p p2 p3 pos : Pos} (EK : ExmK X.K X.mg kn) (U : SuOk X a dx e oe) (hk : e.cls ∈ kn) (hm : X.mg "isinstance" = none) (hmV : X.mg "ValueError" = none)
    (hr : ρ[i]? = some (.val XV ⟨a, dx, e⟩) := by rfl)
    (hN : X.N[i]? = some x := by rfl) (hv : Vis X.env.scope x := by first | exact Or.inl rfl | exact Or.inr (Or.inl rfl) | exact Or.inr (Or.inr rfl)) (hd : (x == ("__debug__" : Str)) = false := by decide) (hcd : (x == ("__classdict__" : Str)) = false := by decide)
    (hg : Gl X "isinstance" := by rfl) (hg2 : Gl X "ValueError" := by rfl)
    (he : starEach [.Name x p2, .Name "ValueError" p3] X.env = (false, eval (.Name x p2) X.env) :: starEach [.Name "ValueError" p3] X.env := by rfl) (he2 : starEach [.Name "ValueError" p3] X.env = (false, eval (.Name "ValueError" p3) X.env) :: starEach [] X.env := by rfl)
    (hpl : (backTo pos (starEach [.Name "ValueError" p3] X.env)).any (·.1) = false := by rfl) :
    EG (X.suite a ((a, oe) :: pn)) W' g ρ (.Call (.Name "isinstance" p) [.Name x p2, .Name "ValueError" p3] [] pos) (.ok true) := by
  refine ⟨_, pe_callB (X := X.suite a ((a, oe) :: pn)) (call_isD (EK.isc _ hk) U) hg hm (by decide +kernel) (pa_cons (pe_var (X := X.suite a ((a, oe) :: pn)) hN hv hd hcd) (pa_cons (pe_bltn (X := X.suite a ((a, oe) :: pn)) (v := .ty "ValueError") hg2 hmV PyProof.Rows.Boot.«ValueError» rfl) pa_nil he2) he) (by decide) (by decide) he hpl, fun S own σ H Q rs h => ?_⟩
  obtain ⟨ads, r, _, _⟩ := rs.rs
  obtain ⟨u, eu, q⟩ := r.val_at hr
  obtain ⟨rfl, fs, q3, q4⟩ := q
  exact ⟨_, eu, _, _, _, fs, rfl, fun u z => z, hide_sub _ _ q3, EK.kitV _ hk, h H _ (Same.refl H) rfl⟩
end
end Py

set_option Elab.async false
set_option linter.all false
set_option maxRecDepth 100000
set_option maxHeartbeats 4000000
/-! Py, part X4: defs called in an except suite; the facts of the classes. -/
namespace Py
open PySem PySem.Spec L2
open Rp (rp)
theorem quiet_any {α : Type} {m : Res α} {Q Q' : α → Prop} {E E' : Ex → Prop} (h : Post m.quiet Q E) (k : ∀ a, Q a → Q' a) : Post m.quiet Q' E' := by
  cases m with
  | ok a => exact k a h
  | err e => exact h.elim
  | bad => exact h.elim
structure CtxH (X : Cx) (lv : Nat) : Prop where
  nd : X.N.Nodup
  hot : L2H.HotC X
  room : L2H.RoomH lv X.A
structure FHk (P : Program) (w : World) (K : PySem.W.Frag) (mg : Str → Option Value) (base : Heap) (name : Str) (k : Nat) (sp : Sp) : Prop where
  ok : ∃ fd ps, L2H.FnH P w K mg base (L2N.CX P w) k (He.ga K name) fd ps sp ∧ Binds K fd ps []
  kp : PySem.W.keepIn K (.ref (He.ga K name)) = true
  gl : mg name = some (.ref (He.ga K name))
abbrev fcxh (P : Program) (w : World) (K : PySem.W.Frag) (mg : Str → Option Value) (base : Heap) (N : List Str) (qual : Str) (scope : Scope) (f : Addr) (cdv : Value) (A : Around) (outer : List Env) (s : Shared) (H : Hp) (E : XK) (p : Addr × Obj) : Cx :=
  L2H.cxH (L2N.CX P w) P w K mg base N qual scope f cdv A outer s H E p
section
variable {P : Program} {w : World} {K : PySem.W.Frag} {mg : Str → Option Value} {base : Heap} {x qual : Str} {params : Arguments} {body : List Stmt} {scope : Scope} {kws : List (Str × V)} {fd : FuncData} {N ps : List Str} {k : Nat} {A : Type} {as : A → List AV}
theorem fokh_data {R : Type} [Rp R] {f : A → Res R} {ρ0 : A → List Slot} (F : FunD K x qual params body scope [] kws (He.ga K x) fd) (hgl : mg x = some (.ref (He.ga K x))) (S : FnScope N ps scope) (hb : Binds K fd ps []) (hl : ∀ u, (as u).length = ps.length := by intro _; rfl)
    (h0 : ∀ u, ρ0 u = (as u).map AV.slot ++ List.replicate (N.length - ps.length) .non := by intro _; rfl)
    (d : ∀ cdv A outer s H E p, CtxH (fcxh P w K mg base N qual scope (He.ga K x) cdv A outer s H E p) k → ∀ u, SR (fcxh P w K mg base N qual scope (He.ga K x) cdv A outer s H E p) (fun _ _ _ _ => False) none (ρ0 u) body (retD R) (f u)) :
    FHk P w K mg base x (k + 1) (spOf K as fun u => (f u).quiet) := by
  have lenq : ∀ vs H Q E, spOf K as (fun u => (f u).quiet) vs H Q E → vs.length = ps.length := fun vs H Q E h => by
    obtain ⟨S', u, _, r, _⟩ := h
    rw [r.length, hl]
  obtain ⟨oc, od, dV, kV, doc, pm, an, cdv, ct, osl, rfl, lk, hcd, _, _⟩ := F.ex
  refine ⟨⟨_, ps, L2H.fn_ofH lk hcd S lenq (fun A outer s H vs Q E p hot hr h => ?_), hb⟩, F.kp, hgl⟩
  obtain ⟨S', u, hd, r, hp⟩ := h
  obtain ⟨t, pt, q⟩ := (d cdv A outer s H E p ⟨S.nd, ⟨p, hot, List.mem_singleton.mpr rfl⟩, hr⟩ u).ex
  refine ⟨t, pt, q S' [] _ H _ ?_ ((hp.quiet_to (E' := fun _ => False)).imp (fun y hy v σ' H' own' x' _ z => hy H' v x'.nil_same (Rp.mono (hide_mono fun b hb => List.mem_append_left _ hb) z)) fun e he => he.elim)⟩
  rw [h0, ← hl u, ← r.length]
  exact rs_start r hd
end
section
variable {X : Cx} {W : WX} {g : Bool} {ρ : List Slot} {A R : Type} [Rp R] {a : Expr} {pos : Pos} {lv : Nat}
theorem passH {σ : St} (hxe : True) : PassesAt (L2N.CX X.prog X.w) X σ (fun _ _ _ => False) := fun _ _ _ _ _ _ q => by
  rcases q with ⟨_, _, _, _, _, _, _, _, _, _, _, _, z⟩
  exact z.elim
theorem e_callh {x : Str} {p : Pos} {es : List Expr} {as : A → List AV} {f : A → Res R} {m : Res R} {k : Nat} (C : CtxH X lv) (F : FHk X.prog X.w X.K X.mg X.base x k (spOf X.K as fun u => (f u).quiet)) (ha : AJ X W true ρ (a :: es) as (fun u => (f u).quiet) m) (hk : k ≤ lv := by decide)
    (hg : Gl X x := by rfl) (hdb : (x == ("__debug__" : Str)) = false := by decide) (he : starEach (a :: es) X.env = (false, eval a X.env) :: starEach es X.env := by rfl) (hpl : (backTo pos (starEach es X.env)).any (·.1) = false := by rfl) :
    EG X W true ρ (.Call (.Name x p) (a :: es) [] pos) m := by
  obtain ⟨t, pa, qa⟩ := ha.ex
  obtain ⟨fd, ps, F1, F2⟩ := F.ok
  refine ⟨_, L2H.pe_callH (E := fun _ _ _ _ => False) F1 (C.room.mono hk) C.hot hg F.gl F.kp F2 (fun σ => passH trivial) pa hdb he hpl, fun S own σ H Q rs h => ?_⟩
  refine qa S own σ H _ _ _ rs (fun e z => z) h fun x vs H' s r hx => ⟨S ++ own, x, (rs.mono s).dom, r, ?_⟩
  exact quiet_any hx fun y hy H2 v s2 r2 => hy H2 v (s.trans s2) r2
/-- a suite's context -/
theorem CtxOk.suite {a dx : Addr} {e : Ex} {oe : Obj} {pn : List (Addr × Obj)} (C : CtxOk X W lv) (U : SuOk X a dx e oe) : CtxH (X.suite a ((a, oe) :: pn)) lv := by
  obtain ⟨vs, hv⟩ := U.f
  exact ⟨C.nd, ⟨(a, oe), ⟨rfl, vs, hv, U.z.2.2 vs hv⟩, List.mem_cons_self⟩, ⟨C.room.dp, C.room.un⟩⟩
end
/-! ### the facts -/
def iscB (K : PySem.W.Frag) (D : Addr) : Bool :=
  decide (PySem.W.findIn K (.ref D) "__getattribute__" = some (some (.builtin "BaseException.__getattribute__"))) && (decide (PySem.W.findIn K (.ref D) "__getattr__" = some none) && (decide (PySem.W.subIn K (.ref D) (.type "BaseException") = some true) && (PySem.W.hasDictIn K D &&
  (decide (PySem.W.findIn K (.ref D) "__class__" = some (some (.builtin "object.__class__"))) && (decide (PySem.W.specialIn K (.builtin "object.__class__") "__get__" = some (some (.builtin "getset_descriptor.__get__"))) && (decide (PySem.W.takesIn K (.builtin "object.__class__") = some true) &&
  decide (PySem.W.mroIn K D (.type "object") = some true)))))))
theorem iscB_ok {K : PySem.W.Frag} {D : Addr} (h : iscB K D = true) : ExcC K D := by
  obtain ⟨h1, h⟩ := He.ba h
  obtain ⟨h2, h⟩ := He.ba h
  obtain ⟨h3, h⟩ := He.ba h
  obtain ⟨h4, h⟩ := He.ba h
  obtain ⟨h5, h⟩ := He.ba h
  obtain ⟨h6, h⟩ := He.ba h
  obtain ⟨h7, h8⟩ := He.ba h
  exact ⟨of_decide_eq_true h1, of_decide_eq_true h2, of_decide_eq_true h3, h4, of_decide_eq_true h5, of_decide_eq_true h6, of_decide_eq_true h7, of_decide_eq_true h8⟩
def exmB (K : PySem.W.Frag) (kn : List String) : Bool :=
  kn.all fun x => (("Fault" :: kn).all fun c => decide (PySem.W.exmOne K (.ref (He.ga K (Str.ofString x))) (.ref (He.ga K (Str.ofString c))) = some (catches c x)) && decide (PySem.W.kitOne K (.ref (He.ga K (Str.ofString x))) (.ref (He.ga K (Str.ofString c))) = some (catches c x))) &&
    (xfB K (He.ga K (Str.ofString x)) && (decide (PySem.W.kitOne K (.ref (He.ga K (Str.ofString x))) (.type "ValueError") = some true) && iscB K (He.ga K (Str.ofString x))))
theorem exmB_ok {K : PySem.W.Frag} {mg : Str → Option Value} {kn : List String} (h : exmB K kn = true) (hg : ∀ c ∈ "Fault" :: kn, mg (Str.ofString c) = some (.ref (He.ga K (Str.ofString c)))) : ExmK K mg kn := by
  have h' := List.all_eq_true.mp h
  refine ⟨fun x hx c hc => ?_, hg, fun x hx => ?_, fun x hx c hc => ?_, fun x hx => ?_, fun x hx => ?_⟩
  · exact of_decide_eq_true (He.ba (List.all_eq_true.mp (He.ba (h' x hx)).1 c hc)).1
  · exact xfB_ok (He.ba (He.ba (h' x hx)).2).1
  · exact of_decide_eq_true (He.ba (List.all_eq_true.mp (He.ba (h' x hx)).1 c hc)).2
  · exact of_decide_eq_true (He.ba (He.ba (He.ba (h' x hx)).2).2).1
  · exact iscB_ok (He.ba (He.ba (He.ba (h' x hx)).2).2).2
end Py

set_option Elab.async false
set_option linter.all false
set_option maxRecDepth 100000
set_option maxHeartbeats 4000000
/-! Py, part S: texts, chains, membership. -/
namespace Py
open PySem PySem.Spec L2
open Rp (rp)
def catS (x y : Str) : Res Str := guardR (decide (x.length + y.length ≤ sizeLine)) (.ok (x ++ y))
def inS (x z : Str) : Res Bool := match x.cps.toList with
  | [c] => .ok (decide (c ∈ z.cps.toList))
  | _ => .bad
def mulS (x : Str) (n : Int) : Res Str := guardR (decide (1 < n) && (decide (n ≤ 1048576) && (decide (0 < x.length) && decide (x.length * n.toNat ≤ 1048576)))) (.ok ⟨(List.replicate n.toNat x.cps).foldl (· ++ ·) #[]⟩)
def joinS (a : Str) (ys : List Str) : Res Str := guardR (decide ((ys.map (·.length)).sum + ys.length * a.length ≤ 16777216)) (.ok (Txt.join a ys))
def intS (a : Str) : Res Int := match PySem.intText? a with
  | some n => guardR (decide (a.length ≤ 640)) (.ok n)
  | none => .bad
theorem one_sign {x : Str} {c : Nat} (h : x.cps.toList = [c]) : x = ⟨#[c]⟩ := by
  obtain ⟨⟨l⟩⟩ := x
  have e : l = [c] := h
  rw [e]
section
variable {X : Cx} {W : WX} {g : Bool} {ρ : List Slot} {a b c e : Expr} {pos : Pos} {lv : Nat}
theorem e_catS {ma mb : Res Str} (ha : EG X W true ρ a ma) (hb : EG X W true ρ b mb) : EG X W g ρ (.BinOp a .Add b pos) (ma.bind fun x => mb.bind fun y => catS x y) :=
  e_binR (f := catS) op_add_str ha hb (fun _ _ H x y v u Q r1 r2 h => ⟨x, y, r1, r2, of_decide_eq_true h.guard.1, h.guard.2 _ rfl⟩) (fun _ _ e => guard_ne e)
theorem op_mulS : OpR X (binaryOp .Mult) (fun x y H Q => ∃ i n, x = .str i ∧ y = .int n ∧ (1 < n ∧ n ≤ 1048576 ∧ 0 < i.length ∧ i.length * n.toNat ≤ 1048576) ∧ Q (.str ⟨(List.replicate n.toNat i.cps).foldl (· ++ ·) #[]⟩) H) := by
  intro pins s σ H x y v u Q I rx ry h
  obtain ⟨i, n, rfl, rfl, ⟨h1, h2, h3, h4⟩, q⟩ := h
  obtain ⟨t, rfl⟩ := rx
  obtain ⟨t', rfl⟩ := ry
  have nn : ¬ (n == 1 || i.length == 0) = true := by
    simp only [Bool.or_eq_true, beq_iff_eq]
    omega
  refine P.mul_str ?_ (fun _ _ => ?_) (fun _ _ => ?_) ?_
  · rw [decide_eq_false (show ¬ n < -(2 ^ 63 : Int) by omega), decide_eq_false (show ¬ n ≥ 2 ^ 63 by omega)]
    rfl
  · have l1 : i.length ≤ 1048576 := Nat.le_trans (Nat.le_mul_of_pos_right _ (by omega)) h4
    have l2 : (8796093022207 : Int) ≤ (2 ^ 63 - 1) / n := (Int.le_ediv_iff_mul_le (by omega)).mpr (by omega)
    omega
  · exact decide_eq_false (by rw [sizeLine_eq]; omega)
  · rw [if_neg (by omega), if_neg nn]
    refine ⟨fits_reps (decide_eq_false (by rw [sizeLine_eq]; omega)), .str _, H, I.tok _, ⟨_, rfl⟩, q⟩
theorem e_mulS {ma : Res Str} {mb : Res Int} (ha : EG X W true ρ a ma) (hb : EG X W true ρ b mb) : EG X W g ρ (.BinOp a .Mult b pos) (ma.bind fun x => mb.bind fun y => mulS x y) :=
  e_binR (f := mulS) op_mulS ha hb (fun _ _ H x y v u Q r1 r2 h => by
    obtain ⟨h1, h2⟩ := h.guard
    simp only [Bool.and_eq_true, decide_eq_true_eq] at h1
    exact ⟨x, y, r1, r2, h1, h2 _ rfl⟩) (fun _ _ e => guard_ne e)
theorem inS_ne (x z : Str) (e : Ex) : inS x z ≠ .err e := by
  unfold inS
  split <;> intro h <;> cases h
theorem e_inS {ma mb : Res Str} (ha : EG X W true ρ a ma) (hb : EG X W true ρ b mb) (hm : behindInMarks .In b = false := by rfl) : CJ X W ρ .In a b (ma.bind fun x => mb.bind fun y => inS x y) :=
  e_cmpR (f := inS) op_in_sign hm ha hb (fun _ _ H x y v u Q r1 r2 h => by
    unfold inS at h
    split at h
    · rename_i c hc
      exact ⟨c, y, by rw [r1, one_sign hc], r2, h⟩
    · exact h.elim)
theorem e_ninS {ma mb : Res Str} (ha : EG X W true ρ a ma) (hb : EG X W true ρ b mb) (hm : behindInMarks .NotIn b = false := by rfl) : CJ X W ρ .NotIn a b (ma.bind fun x => mb.bind fun y => (inS x y).bind fun k => .ok (!k)) :=
  e_cmpR (f := fun x y => (inS x y).bind fun k => .ok (!k)) op_notIn_sign hm ha hb (fun _ _ H x y v u Q r1 r2 h => by
    unfold inS at h
    split at h
    · rename_i c hc
      exact ⟨c, y, by rw [r1, one_sign hc], r2, h⟩
    · exact h.elim)
theorem e_join {mo : Res Str} {ml : Res (List Str)} {p2 : Pos} (ho : EG X W true ρ a mo) (hl : LG X W ρ e ml) (hs : starEach [e] X.env = [(false, eval e X.env)] := by rfl) (hbase : attributeBase a "join" X.env (eval a X.env) = eval a X.env := by rfl) (hline : (p2.endLine == pos.line) = true := by rfl) :
    EG X W g ρ (.Call (.Attribute a "join" p2) [e] [] pos) (mo.bind fun x => ml.bind fun ys => joinS x ys) := by
  obtain ⟨to, po, qo⟩ := ho.ex
  obtain ⟨tl, pl, ql⟩ := hl.ex
  refine ⟨_, pe_join po pl hs hbase hline, fun S own σ H Q rs h => qo S own σ H _ rs (h.bind.imp (fun x hx H1 v s1 r1 => ⟨⟨x, r1⟩, ql S own σ H1 _ (rs.mono s1) (hx.bind.imp (fun ys hy H2 p vs s2 e1 e2 => ?_) fun _ z => z.mono s1)⟩) fun _ z => z)⟩
  obtain ⟨h1, hy⟩ := hy.guard
  refine ⟨x, p, ys, r1, rfl, .inl (.inl (.inl ?_)), of_decide_eq_true h1, hy H2 _ (s1.trans s2) rfl⟩
  have ev : ∀ {vs : List V} {ys : List Str}, RpAll X.K (hide (S ++ own) H2) vs ys → vs = ys.map V.str := by
    intro vs ys r
    induction r with
    | nil => rfl
    | cons r _ ih =>
      cases r
      rw [ih]
      rfl
  rw [← ev e2]
  exact e1
theorem e_find {mo ml : Res Str} {p2 : Pos} (ho : EG X W true ρ a mo) (hl : EG X W true ρ e ml) (hs : starEach [e] X.env = [(false, eval e X.env)] := by rfl) (hbase : attributeBase a "find" X.env (eval a X.env) = eval a X.env := by rfl) (hline : (p2.endLine == pos.line) = true := by rfl) :
    EG X W g ρ (.Call (.Attribute a "find" p2) [e] [] pos) (mo.bind fun x => ml.bind fun y => .ok (Txt.find x y)) := by
  obtain ⟨to, po, qo⟩ := ho.ex
  obtain ⟨tl, pl, ql⟩ := hl.ex
  refine ⟨_, pe_m1 F.slot_str_find F.type_str_find mt_find po pl hs hbase hline, fun S own σ H Q rs h => qo S own σ H _ rs (h.bind.imp (fun x hx H1 v s1 r1 => ⟨⟨x, r1⟩, ql S own σ H1 _ (rs.mono s1) (hx.bind.imp (fun y hy H2 u s2 r2 => ?_) fun _ z => z.mono s1)⟩) fun _ z => z)⟩
  exact ⟨x, y, r1, by rw [show u = V.str y from r2], hy H2 _ (s1.trans s2) rfl⟩
theorem e_intS {p : Pos} {ma : Res Str} (ha : EG X W true ρ a ma) (hm : X.mg "int" = none) (hg : Gl X "int" := by rfl)
    (he : starEach [a] X.env = (false, eval a X.env) :: starEach [] X.env := by rfl) (hpl : (backTo pos (starEach [] X.env)).any (·.1) = false := by rfl) : EG X W g ρ (.Call (.Name "int" p) [a] [] pos) (ma.bind fun x => intS x) :=
  bt_flat (f := intS) call_int_str hm ha (fun B1 H x v Q r h => by
    unfold intS at h
    split at h
    · rename_i n hn
      obtain ⟨h1, h2⟩ := h.guard
      exact ⟨x, n, by rw [show v = V.str x from r], hn, of_decide_eq_true h1, h2 _ rfl⟩
    · exact h.elim) (by decide +kernel) hg (by decide) (by decide) he hpl
def rCi (f : Int → Int → Bool) : R2 := fun x y H Q => ∃ i j, x = .int i ∧ y = .int j ∧ Q (.bl (f i j)) H
/-- a ≤ b op c, of ints -/
theorem chain_run {op op' : CmpOp} {f f' : Int → Int → Bool} {ma mb mc : Res Int} (ho : OpR X (compareOp op) (rCi f)) (ho' : OpR X (compareOp op') (rCi f'))
    (ha : EG X W true ρ a ma) (hb : EG X W true ρ b mb) (hc : EG X W true ρ c mc) (hm : lastMarks [op, op'] [b, c] = false) :
    EG X W g ρ (.Compare a [op, op'] [b, c] pos) (ma.bind fun x => mb.bind fun y => if f x y then mc.bind fun z => .ok (f' y z) else .ok false) := by
  obtain ⟨ta, pa, qa⟩ := ha.ex
  obtain ⟨tb, pb, qb⟩ := hb.ex
  obtain ⟨tc, pc, qc⟩ := hc.ex
  refine ⟨_, pe_chain ho ho' pa pb pc hm, fun S own σ H Q rs h => two_run (R' := fun v u H2 => rCi f v u H2 fun z H3 => ∃ k, z = V.bl k ∧ (if k = true then tc σ H3 fun w' H4 => rCi f' u w' H4 Q else Q (V.bl false) H3)) qa qb rs h fun x y v u H2 s r1 r2 hp => ?_⟩
  refine ⟨x, y, r1, r2, f x y, rfl, ?_⟩
  cases hf : f x y with
  | true =>
    rw [hf] at hp
    rw [if_pos rfl]
    have hp' : Post (mc.bind fun z => .ok (f' y z)) _ _ := hp
    exact qc S own σ H2 _ (rs.mono s) (hp'.bind.imp (fun z hz H4 w' s4 r4 => ⟨y, z, r2, r4, hz H4 _ (s.trans s4) rfl⟩) fun _ z => z.mono s)
  | false =>
    rw [hf] at hp
    rw [if_neg Bool.false_ne_true]
    have hp' : Post (Res.ok false) _ _ := hp
    exact hp' H2 _ s rfl
theorem chain_runT {op op' : CmpOp} {f f' : Int → Int → Bool} {ma mb mc : Res Int} (ho : OpR X (compareOp op) (rCi f)) (ho' : OpR X (compareOp op') (rCi f'))
    (ha : EG X W true ρ a ma) (hb : EG X W true ρ b mb) (hc : EG X W true ρ c mc) (hm : lastMarks [op, op'] [b, c] = false) :
    TJ X W ρ (.Compare a [op, op'] [b, c] pos) (ma.bind fun x => mb.bind fun y => if f x y then mc.bind fun z => .ok (f' y z) else .ok false) := by
  obtain ⟨ta, pa, qa⟩ := ha.ex
  obtain ⟨tb, pb, qb⟩ := hb.ex
  obtain ⟨tc, pc, qc⟩ := hc.ex
  refine ⟨_, pt_chain ho ho' pa pb pc hm, fun S own σ H Q rs h => two_run (R' := fun v u H2 => rCi f v u H2 fun z H3 => ∃ k, z = V.bl k ∧ (if k = true then tc σ H3 fun w' H4 => rCi f' u w' H4 (fun z' H5 => ∃ k', z' = V.bl k' ∧ Q k' H5) else (fun z' H5 => ∃ k', z' = V.bl k' ∧ Q k' H5) (V.bl false) H3)) qa qb rs h fun x y v u H2 s r1 r2 hp => ?_⟩
  refine ⟨x, y, r1, r2, f x y, rfl, ?_⟩
  cases hf : f x y with
  | true =>
    rw [hf] at hp
    rw [if_pos rfl]
    have hp' : Post (mc.bind fun z => .ok (f' y z)) _ _ := hp
    exact qc S own σ H2 _ (rs.mono s) (hp'.bind.imp (fun z hz H4 w' s4 r4 => ⟨y, z, r2, r4, _, rfl, hz H4 (s.trans s4)⟩) fun _ z => z.mono s)
  | false =>
    rw [hf] at hp
    rw [if_neg Bool.false_ne_true]
    have hp' : Post (Res.ok false) _ _ := hp
    exact ⟨_, rfl, hp' H2 s⟩
theorem t_lele {ma mb mc : Res Int} (ha : EG X W true ρ a ma) (hb : EG X W true ρ b mb) (hc : EG X W true ρ c mc) (hm : lastMarks [.LtE, .LtE] [b, c] = false := by with_unfolding_all rfl) :
    TJ X W ρ (.Compare a [.LtE, .LtE] [b, c] pos) (ma.bind fun x => mb.bind fun y => if decide (x ≤ y) then mc.bind fun z => .ok (decide (y ≤ z)) else .ok false) :=
  chain_runT (f := fun x y => decide (x ≤ y)) (f' := fun x y => decide (x ≤ y)) op_le op_le ha hb hc hm
theorem t_lelt {ma mb mc : Res Int} (ha : EG X W true ρ a ma) (hb : EG X W true ρ b mb) (hc : EG X W true ρ c mc) (hm : lastMarks [.LtE, .Lt] [b, c] = false := by with_unfolding_all rfl) :
    TJ X W ρ (.Compare a [.LtE, .Lt] [b, c] pos) (ma.bind fun x => mb.bind fun y => if decide (x ≤ y) then mc.bind fun z => .ok (decide (y < z)) else .ok false) :=
  chain_runT (f := fun x y => decide (x ≤ y)) (f' := fun x y => decide (x < y)) op_le op_lt ha hb hc hm
theorem e_lele {ma mb mc : Res Int} (ha : EG X W true ρ a ma) (hb : EG X W true ρ b mb) (hc : EG X W true ρ c mc) (hm : lastMarks [.LtE, .LtE] [b, c] = false := by with_unfolding_all rfl) :
    EG X W g ρ (.Compare a [.LtE, .LtE] [b, c] pos) (ma.bind fun x => mb.bind fun y => if decide (x ≤ y) then mc.bind fun z => .ok (decide (y ≤ z)) else .ok false) :=
  chain_run (f := fun x y => decide (x ≤ y)) (f' := fun x y => decide (x ≤ y)) op_le op_le ha hb hc hm
theorem e_lelt {ma mb mc : Res Int} (ha : EG X W true ρ a ma) (hb : EG X W true ρ b mb) (hc : EG X W true ρ c mc) (hm : lastMarks [.LtE, .Lt] [b, c] = false := by with_unfolding_all rfl) :
    EG X W g ρ (.Compare a [.LtE, .Lt] [b, c] pos) (ma.bind fun x => mb.bind fun y => if decide (x ≤ y) then mc.bind fun z => .ok (decide (y < z)) else .ok false) :=
  chain_run (f := fun x y => decide (x ≤ y)) (f' := fun x y => decide (x < y)) op_le op_lt ha hb hc hm
end
end Py

set_option Elab.async false
set_option linter.all false
set_option maxRecDepth 100000
set_option maxHeartbeats 4000000
/-! Py, part X5: what the classes' messages ask. -/
namespace Py
open PySem PySem.Spec L2
open Rp (rp)
def fmtC : V → Prop := fun y => ∃ i : Int, y = .int i ∧ i.natAbs.log2 < 1920
def noC : V → Prop := fun _ => True
def fmtOk (i : Int) : Bool := decide (i.natAbs.log2 < 1920)
theorem fmtOk_c (K : PySem.W.Frag) (H : Hp) (y : V) (v : Int) (r : rp K H y v) (h : fmtOk v = true) : fmtC y := ⟨v, r, of_decide_eq_true h⟩
theorem noC_c {T : Type} [Rp T] (K : PySem.W.Frag) (H : Hp) (y : V) (v : T) (r : rp K H y v) (h : (fun _ : T => true) v = true) : noC y := trivial
theorem app_len (x y : Str) : (x ++ y).length = x.length + y.length := by
  show (x.cps ++ y.cps).size = x.cps.size + y.cps.size
  simp
section
variable {p : Str} {a : Addr} {y : V} {H : Hp} {Q' : List V → Hp → Prop}
theorem hta_c {z : V} (k : ∀ ms : List V, ms.length ≤ 1000 → Q' ms H) : tCons (tC z) tNil (start ["self", p] [.ref a, y]) H Q' := k [z] (by show 1 ≤ 1000; decide)
theorem hta_2 {pre : Str} (hc : fmtC y) (h1 : pre.length ≤ 1000) (k : ∀ ms : List V, ms.length ≤ 1000 → Q' ms H) :
    tCons (fun σ H Q => tJs [tC (.str pre), tFmt (tVar 1)] Str.empty σ H fun out H1 => Q (.str out) H1) tNil (start ["self", p] [.ref a, y]) H Q' := by
  obtain ⟨i, rfl, hi⟩ := hc
  have l1 := PyProof.Rows.int_text_len_1921 hi
  have l0 : (Str.empty ++ pre).length ≤ 1000 := by rw [app_len, show Str.empty.length = 0 from rfl, Nat.zero_add]; exact h1
  refine ⟨pre, rfl, by rw [sizeLine_eq]; omega, .int i, rfl, .inr ⟨i, rfl, hi, ?_⟩⟩
  refine ⟨_, rfl, by rw [app_len, sizeLine_eq]; omega, ?_⟩
  exact k [_] (by show 1 ≤ 1000; decide)
theorem hta_3 {pre post : Str} (hc : fmtC y) (h1 : pre.length ≤ 1000) (h2 : post.length ≤ 1000) (k : ∀ ms : List V, ms.length ≤ 1000 → Q' ms H) :
    tCons (fun σ H Q => tJs [tC (.str pre), tFmt (tVar 1), tC (.str post)] Str.empty σ H fun out H1 => Q (.str out) H1) tNil (start ["self", p] [.ref a, y]) H Q' := by
  obtain ⟨i, rfl, hi⟩ := hc
  have l1 := PyProof.Rows.int_text_len_1921 hi
  have l0 : (Str.empty ++ pre).length ≤ 1000 := by rw [app_len, show Str.empty.length = 0 from rfl, Nat.zero_add]; exact h1
  refine ⟨pre, rfl, by rw [sizeLine_eq]; omega, .int i, rfl, .inr ⟨i, rfl, hi, ?_⟩⟩
  refine ⟨_, rfl, by rw [app_len, sizeLine_eq]; omega, post, rfl, by rw [app_len, app_len, sizeLine_eq]; omega, ?_⟩
  exact k [_] (by show 1 ≤ 1000; decide)
end
theorem CtxOk.units {X : Cx} {W : WX} {lv : Nat} (C : CtxOk X W lv) : X.A.units + 64 < cLine := by have := C.room.un; omega
theorem CtxH.units {X : Cx} {lv : Nat} (C : CtxH X lv) : X.A.units + 64 < cLine := by have := C.room.un; omega
section
variable {X : Cx} {W : WX} {ρ : List Slot} {a b : Expr}
theorem e_eqvU {m n : Res PD} (hu : X.A.units + 64 < cLine) (h : EG X W true ρ a m) (h2 : EG X W true ρ b n) : CJ X W ρ .Eq a b (m.bind fun x => n.bind fun y => eqvD x y) :=
  e_cmpR (f := eqvD) (op_eqD hu) (nomark _) h h2 (fun _ _ H x y v u Q r1 r2 hq => by
    obtain ⟨h1, hq⟩ := hq.guard
    rw [Bool.and_eq_true] at h1
    exact ⟨_, _, dp_same hide_sub r1, dp_same hide_sub r2, h1.1, h1.2, hq⟩)
theorem e_nevU {m n : Res PD} (hu : X.A.units + 64 < cLine) (h : EG X W true ρ a m) (h2 : EG X W true ρ b n) : CJ X W ρ .NotEq a b (m.bind fun x => n.bind fun y => (eqvD x y).bind fun k => .ok (!k)) :=
  e_cmpR (f := fun x y => (eqvD x y).bind fun k => .ok (!k)) (op_neD hu) (nomark _) h h2 (fun _ _ H x y v u Q r1 r2 hq => by
    obtain ⟨h1, hq⟩ := hq.bind.guard
    rw [Bool.and_eq_true] at h1
    exact ⟨_, _, dp_same hide_sub r1, dp_same hide_sub r2, h1.1, h1.2, hq⟩)
end
end Py

set_option Elab.async false
set_option linter.all false
set_option maxRecDepth 100000
set_option maxHeartbeats 4000000
/-! Py, part Q: a list or a tuple of items of one kind. -/
namespace Py
open PySem PySem.Spec L2
open Rp (rp)
structure Sq (T : Type) where
  t : Bool
  l : List T
instance {T : Type} [Rp T] : Rp (Sq T) where
  rp K H v x := match x with
    | ⟨true, l⟩ => rp K H v (Tup.mk l)
    | ⟨false, l⟩ => rp K H v l
  mono {K H H' v x} s h := by
    obtain ⟨t, l⟩ := x
    cases t with
    | true => exact Rp.mono (T := Tup _) s h
    | false => exact Rp.mono (T := List _) s h
section
variable {X : Cx} {W : WX} {g : Bool} {ρ : List Slot} {T U A B : Type} [Rp T] [Rp U] [Rp A] [Rp B] {a b e tg : Expr} {pos : Pos} {lv : Nat}
/-- where the answer is known, only its picture counts -/
theorem EG.as {x : A} {y : B} (h : EG X W g ρ e (.ok x)) (k : ∀ (K : PySem.W.Frag) (H : Hp) (v : V), rp K H v x → rp K H v y) : EG X W g ρ e (.ok y) := by
  obtain ⟨t, p, q⟩ := h.ex
  exact ⟨t, p, fun S own σ H Q rs hp => q S own σ H Q rs fun H' v s r => hp H' v s (k _ _ _ r)⟩
theorem EG.asE {ex : Ex} (h : EG X W g ρ e (.err ex : Res A)) : EG X W g ρ e (.err ex : Res B) := by
  obtain ⟨t, p, q⟩ := h.ex
  exact ⟨t, p, fun S own σ H Q rs hp => q S own σ H Q rs hp⟩
theorem EG.asB (h : EG X W g ρ e (.bad : Res A)) : EG X W g ρ e (.bad : Res B) := by
  obtain ⟨t, p, q⟩ := h.ex
  exact ⟨t, p, fun S own σ H Q rs hp => hp.elim⟩
theorem e_sqT {m : Res (Tup T)} (h : EG X W g ρ e m) : EG X W g ρ e (m.bind fun x => .ok (Sq.mk true x.l)) := by
  cases m with
  | ok x => exact h.as fun _ _ _ r => r
  | err z => exact h.asE
  | bad => exact h.asB
theorem e_sqL {m : Res (List T)} (h : EG X W g ρ e m) : EG X W g ρ e (m.bind fun x => .ok (Sq.mk false x)) := by
  cases m with
  | ok x => exact h.as fun _ _ _ r => r
  | err z => exact h.asE
  | bad => exact h.asB
theorem i_sq {m : Res (Sq T)} (h : EG X W true ρ e m) : IJ X W ρ tg e (m.bind fun x => .ok x.l) := by
  cases m with
  | ok x =>
    obtain ⟨t, l⟩ := x
    cases t with
    | true => exact i_tup (m := .ok (Tup.mk l)) (h.as fun _ _ _ r => r)
    | false => exact i_list (m := .ok l) (h.as fun _ _ _ r => r)
  | err z => exact i_list (m := .err z) h.asE
  | bad => exact i_list (m := .bad) h.asB
theorem e_ixsq {m : Res (Sq T)} {mi : Res Int} (h : EG X W true ρ a m) (hi : EG X W true ρ b mi) (hs : PlainIx b := by exact fun _ _ => rfl) : EG X W true ρ (.Subscript a b pos) (m.bind fun xs => mi.bind fun i => idxM xs.l i) := by
  cases m with
  | ok x =>
    obtain ⟨t, l⟩ := x
    cases t with
    | true => exact e_ixt (ma := .ok (Tup.mk l)) (h.as fun _ _ _ r => r) hi hs
    | false => exact e_ix (ma := .ok l) (EG.lg (h.as fun _ _ _ r => r)) hi hs
  | err z => exact e_ixt (ma := (.err z : Res (Tup T))) h.asE hi hs
  | bad => exact e_ixt (ma := (.bad : Res (Tup T))) h.asB hi hs
theorem f_listofsq {p : Pos} {m : Res (Sq T)} (h : EG X W true ρ a m) (hm : X.mg "list" = none) (hg : Gl X "list" := by rfl)
    (he : starEach [a] X.env = (false, eval a X.env) :: starEach [] X.env := by rfl) (hpl : (backTo pos (starEach [] X.env)).any (·.1) = false := by rfl) : FG X W ρ (.Call (.Name "list" p) [a] [] pos) (m.bind fun x => .ok x.l) := by
  cases m with
  | ok x =>
    obtain ⟨t, l⟩ := x
    cases t with
    | true => exact f_listoft (ma := .ok (Tup.mk l)) (h.as fun _ _ _ r => r) hm hg he hpl
    | false => exact f_listof (ma := .ok l) (EG.lg (h.as fun _ _ _ r => r)) hm hg he hpl
  | err z => exact f_listoft (ma := (.err z : Res (Tup T))) h.asE hm hg he hpl
  | bad => exact f_listoft (ma := (.bad : Res (Tup T))) h.asB hm hg he hpl
end
end Py

set_option Elab.async false
set_option linter.all false
set_option maxRecDepth 100000
set_option maxHeartbeats 4000000
/-! Py, part Z: zip of lists and tuples. -/
namespace Py
open PySem PySem.Spec L2
open Rp (rp)
/-- at a: an iterator of the list | tuple at l, at place n -/
def Ik (p : Bool) (h : Heap) (a l : Addr) (n : Nat) : Prop := if p then h.IsTupleIter a l n else h.IsListIter a l n
def Sk (p : Bool) (h : Heap) (a : Addr) (xs : Array Value) : Prop := if p then h.IsTuple a xs else h.IsList a xs
theorem Ik.at {p : Bool} {h h' : Heap} {a l : Addr} {n : Nat} (z : Ik p h a l n) (k : ∀ o, h.get? a = some o → h'.get? a = some o) : Ik p h' a l n := by
  cases p <;> (obtain ⟨o, e, r⟩ := z; exact ⟨o, k o e, r⟩)
theorem Sk.at {p : Bool} {h h' : Heap} {a : Addr} {xs : Array Value} (z : Sk p h a xs) (k : ∀ o, h.get? a = some o → h'.get? a = some o) : Sk p h' a xs := by
  cases p <;> (obtain ⟨o, e, r⟩ := z; exact ⟨o, k o e, r⟩)
theorem Ik.obj {p : Bool} {h : Heap} {a l : Addr} {n : Nat} (z : Ik p h a l n) : ∃ o vs, h.get? a = some o ∧ o.data = .fields vs := by
  cases p <;> (obtain ⟨o, e, _, d⟩ := z; exact ⟨o, _, e, d⟩)
theorem Sk.lt {p : Bool} {h : Heap} {a : Addr} {xs : Array Value} (z : Sk p h a xs) : a < h.objs.size := by
  cases p <;> (obtain ⟨o, e, _⟩ := z; exact Heap.lt_size e)
section
variable {prog : Program} {w : World} {A : Around} {E : Value → Shared → Prop} {s : Shared}
theorem draw_item {p : Bool} {i l : Addr} {n : Nat} {xs : Array Value} {x : Value} {Q : Value → Shared → Prop} (hi : Ik p s.heap i l n) (hl : Sk p s.heap l xs) (hx : xs[n]? = some x)
    (k : ∀ h', Ik p h' i l (n + 1) → Heap.SameBut i s.heap h' → Q x { s with heap := h' }) : wpAny (model prog w) A (Builtin.SmallTypes.nextOf (.ref i)) Q E s := by
  cases p with
  | true => exact wpAny_nextOf_tuple_item hi hl hx k
  | false => exact wpAny_nextOf_list_item hi hl hx k
theorem draw_end {p : Bool} {i l : Addr} {n : Nat} {xs : Array Value} {Q : Value → Shared → Prop} (hh : A.handled = none) (hi : Ik p s.heap i l n) (hl : Sk p s.heap l xs) (hx : xs[n]? = none)
    (k : ∀ h' e, Heap.ExtBut i s.heap h' → (∃ o, h'.get? e = some o ∧ o.cls = .type "StopIteration") → E (.ref e) { s with heap := h' }) : wpAny (model prog w) A (Builtin.SmallTypes.nextOf (.ref i)) Q E s := by
  cases p with
  | true => exact wpAny_nextOf_tuple_end hh hi hl hx k
  | false => exact wpAny_nextOf_list_end hh hi hl hx k
theorem zipk_item {p q : Bool} {z U V i j l m : Addr} {c d : Nat} {xs ys : Array Value} {x y a b : Value} {Q : Value → Shared → Prop} (ap : ZipApart z U V i j l m) (zz : IsZip s.heap z U V .none) (tu : IsPair s.heap U (.ref i) (.ref j))
    (tv : IsPair s.heap V a b) (di : Ik p s.heap i l c) (dj : Ik q s.heap j m d) (sl : Sk p s.heap l xs) (sm : Sk q s.heap m ys) (gx : xs[c]? = some x) (gy : ys[d]? = some y)
    (fin : ∀ h', IsZip h' z U V (rawInt s.heap.objs.size) → IsPair h' V x y → Ik p h' i l (c + 1) → Ik q h' j m (d + 1) → IsPair h' s.heap.objs.size x y → h'.objs.size = s.heap.objs.size + 1 →
      (∀ k o, k ≠ z → k ≠ V → k ≠ i → k ≠ j → s.heap.get? k = some o → h'.get? k = some o) → Q (.ref s.heap.objs.size) { s with heap := h' }) :
    wpAny (model prog w) A (Builtin.«zip.__next__» ⟨[.ref z], []⟩) (fun f s' => ∃ v, f = .done (.ret v) ∧ Q v s') E s := by
  show wpAny _ _ (field (.ref z) 2 >>= _) _ _ _
  refine wpAny_bind (wpAny_field zz rfl (x := .bool false) rfl ?_)
  show wpAny _ _ (field (.ref z) 3 >>= _) _ _ _
  refine wpAny_bind (wpAny_field zz rfl (x := .ref U) rfl (wpAny_bind (wpAny_seqItems tu rfl ?_)))
  show wpAny _ _ (Builtin.SmallTypes.ownedTupleIsFree (.ref z) >>= _) _ _ _
  unfold Builtin.SmallTypes.ownedTupleIsFree
  refine wpAny_bind (wpAny_bind (wpAny_field zz rfl (x := .none) rfl (wpAny_pure ?_)))
  simp only [if_true]
  refine wpAny_bind (wpAny_rule (wpAny_bind (wpAny_field zz rfl (x := .ref V) rfl (wpAny_bind (wpAny_setField_rec zz (by simp) fun g1 z1 e1 => ?_)))))
  have z1' : IsZip g1 z U V .ellipsis := z1
  refine wpAny_bind ?_
  simp only [List.zipIdx_cons, List.zipIdx_nil, List.forIn_cons, List.forIn_nil]
  refine wpAny_bind (wpAny_bind (wpAny_onRaise ?_))
  show wpAny _ _ (Builtin.SmallTypes.nextOf (.ref i) >>= _) _ _ _
  have x1 : ∀ {k : Addr} {o : Obj}, k ≠ z → s.heap.get? k = some o → g1.get? k = some o := fun n e => e1.extBut _ _ n e
  refine wpAny_bind (draw_item (di.at fun o e => x1 ap.i1z e) (sl.at fun o e => x1 ap.l1z e) gx fun g2 di2 e2 => wpAny_pure ?_)
  have x2 : ∀ {k : Addr} {o : Obj}, k ≠ z → k ≠ i → s.heap.get? k = some o → g2.get? k = some o := fun n n2 e => e2.extBut _ _ n2 (x1 n e)
  have tv2 : IsPair g2 V a b := x2 ap.TOz ap.TOi1 tv
  refine wpAny_bind (wpAny_seqItems tv2 rfl (wpAny_bind (wpAny_updateSeq_pair tv2 fun g3 tv3 e3 => wpAny_bind (wpAny_letGo (wpAny_pure ?_)))))
  have tv3' : IsPair g3 V x b := tv3
  refine wpAny_bind (wpAny_bind (wpAny_onRaise ?_))
  show wpAny _ _ (Builtin.SmallTypes.nextOf (.ref j) >>= _) _ _ _
  have x3 : ∀ {k : Addr} {o : Obj}, k ≠ z → k ≠ i → k ≠ V → s.heap.get? k = some o → g3.get? k = some o := fun n n2 n3 e => e3.extBut _ _ n3 (x2 n n2 e)
  refine wpAny_bind (draw_item (dj.at fun o e => x3 ap.i2z ap.i12.symm ap.TOi2.symm e) (sm.at fun o e => x3 ap.l2z ap.l2i1 ap.l2TO e) gy fun g4 dj4 e4 => wpAny_pure ?_)
  have tv4 : IsPair g4 V x b := e4.extBut _ _ ap.TOi2 tv3'
  refine wpAny_bind (wpAny_seqItems tv4 rfl (wpAny_bind (wpAny_updateSeq_pair tv4 fun g5 tv5 e5 => wpAny_bind (wpAny_letGo (wpAny_pure (wpAny_pure ?_))))))
  have tv5' : IsPair g5 V x y := tv5
  have sz : g5.objs.size = s.heap.objs.size := by rw [e5.1, e4.1, e3.1, e2.1, e1.1]
  have z5 : IsZip g5 z U V .ellipsis := e5.extBut _ _ ap.TOz.symm (e4.extBut _ _ ap.i2z.symm (e3.extBut _ _ ap.TOz.symm (e2.extBut _ _ ap.i1z.symm z1')))
  have x5 : ∀ k o, k ≠ z → k ≠ V → k ≠ i → k ≠ j → s.heap.get? k = some o → g5.get? k = some o := fun k o n1 n2 n3 n4 e => e5.extBut _ _ n2 (e4.extBut _ _ n4 (x3 n1 n3 n2 e))
  have di5 : Ik p g5 i l (c + 1) := di2.at fun o e => e5.extBut _ _ ap.TOi1.symm (e4.extBut _ _ ap.i12 (e3.extBut _ _ ap.TOi1.symm e))
  have dj5 : Ik q g5 j m (d + 1) := dj4.at fun o e => e5.extBut _ _ ap.TOi2.symm e
  have zl : z < g5.objs.size := Heap.lt_size z5
  refine wpAny_bind (wpAny_seqItems tv5' rfl (wpAny_bind (wpAny_newTuple ?_)))
  show wpAny _ _ (Builtin.SmallTypes.ownedTupleHandOut (.ref z) (.ref g5.objs.size) >>= _) _ _ _
  unfold Builtin.SmallTypes.ownedTupleHandOut
  have z6 : IsZip (g5.push { cls := .type "tuple", data := .seq #[x, y] }) z U V .ellipsis := Heap.get?_push_of_some _ z5
  refine wpAny_bind (wpAny_bind (wpAny_setField_rec z6 (by simp) fun g7 z7 e7 => ?_))
  have z7' : IsZip g7 z U V (rawInt g5.objs.size) := z7
  refine wpAny_setField_rec z7' (by simp) fun g8 z8 e8 => ?_
  have z8' : IsZip g8 z U V (rawInt g5.objs.size) := z8
  have x8 : ∀ {k : Addr} {o : Obj}, k ≠ z → g5.get? k = some o → g8.get? k = some o := fun n e => e8.extBut _ _ n (e7.extBut _ _ n (Heap.get?_push_of_some _ e))
  have t8 : IsPair g8 g5.objs.size x y := e8.extBut _ _ (Nat.ne_of_gt zl) (e7.extBut _ _ (Nat.ne_of_gt zl) (Heap.get?_push_size _ rfl))
  have s8 : g8.objs.size = g5.objs.size + 1 := by rw [e8.1, e7.1, Heap.size_push]
  rw [sz] at z8' t8 s8
  refine wpAny_pure ⟨_, rfl, ?_⟩
  show Q (.ref g5.objs.size) _
  rw [sz]
  exact fin g8 z8' (x8 ap.TOz tv5') (di5.at fun o e => x8 ap.i1z e) (dj5.at fun o e => x8 ap.i2z e) t8 s8 fun k o n1 n2 n3 n4 e => x8 n1 (x5 k o n1 n2 n3 n4 e)
theorem zipk_end {p q : Bool} {z U V i j l m : Addr} {c d : Nat} {xs ys : Array Value} {a b : Value} {Q : Fin → Shared → Prop} (hh : A.handled = none) (ap : ZipApart z U V i j l m) (zz : IsZip s.heap z U V .none) (tu : IsPair s.heap U (.ref i) (.ref j))
    (tv : IsPair s.heap V a b) (di : Ik p s.heap i l c) (dj : Ik q s.heap j m d) (sl : Sk p s.heap l xs) (sm : Sk q s.heap m ys) (stop : xs[c]? = none ∨ ys[d]? = none)
    (out : ∀ h' e, (∀ k o, k ≠ z → k ≠ V → k ≠ i → k ≠ j → s.heap.get? k = some o → h'.get? k = some o) → (∃ o, h'.get? e = some o ∧ o.cls = .type "StopIteration") → E (.ref e) { s with heap := h' }) :
    wpAny (model prog w) A (Builtin.«zip.__next__» ⟨[.ref z], []⟩) Q E s := by
  show wpAny _ _ (field (.ref z) 2 >>= _) _ _ _
  refine wpAny_bind (wpAny_field zz rfl (x := .bool false) rfl ?_)
  show wpAny _ _ (field (.ref z) 3 >>= _) _ _ _
  refine wpAny_bind (wpAny_field zz rfl (x := .ref U) rfl (wpAny_bind (wpAny_seqItems tu rfl ?_)))
  show wpAny _ _ (Builtin.SmallTypes.ownedTupleIsFree (.ref z) >>= _) _ _ _
  unfold Builtin.SmallTypes.ownedTupleIsFree
  refine wpAny_bind (wpAny_bind (wpAny_field zz rfl (x := .none) rfl (wpAny_pure ?_)))
  simp only [if_true]
  refine wpAny_bind (wpAny_rule (wpAny_bind (wpAny_field zz rfl (x := .ref V) rfl (wpAny_bind (wpAny_setField_rec zz (by simp) fun g1 z1 e1 => ?_)))))
  have z1' : IsZip g1 z U V .ellipsis := z1
  refine wpAny_bind ?_
  simp only [List.zipIdx_cons, List.zipIdx_nil, List.forIn_cons, List.forIn_nil]
  refine wpAny_bind (wpAny_bind (wpAny_onRaise ?_))
  show wpAny _ _ (Builtin.SmallTypes.nextOf (.ref i) >>= _) _ _ _
  have x1 : ∀ {k : Addr} {o : Obj}, k ≠ z → s.heap.get? k = some o → g1.get? k = some o := fun n e => e1.extBut _ _ n e
  cases gx : xs[c]? with
  | none =>
    refine wpAny_bind (draw_end hh (di.at fun o e => x1 ap.i1z e) (sl.at fun o e => x1 ap.l1z e) gx fun g2 e e2 he => ?_)
    obtain ⟨oe, h1, h2⟩ := he
    have z2 : IsZip g2 z U V .ellipsis := e2 _ _ ap.i1z.symm z1'
    have ne : e ≠ z := fun y => by subst y; rw [z2] at h1; cases h1; simp at h2
    exact wpAny_setField_rec z2 (by simp) fun g3 _ e3 => out g3 e (fun k o n1 _ n3 _ y => e3.extBut _ _ n1 (e2 _ _ n3 (x1 n1 y))) ⟨oe, e3.extBut _ _ ne h1, h2⟩
  | some x =>
    have gy : ys[d]? = none := stop.resolve_left fun y => by rw [gx] at y; cases y
    refine wpAny_bind (draw_item (di.at fun o e => x1 ap.i1z e) (sl.at fun o e => x1 ap.l1z e) gx fun g2 di2 e2 => wpAny_pure ?_)
    have x2 : ∀ {k : Addr} {o : Obj}, k ≠ z → k ≠ i → s.heap.get? k = some o → g2.get? k = some o := fun n n2 e => e2.extBut _ _ n2 (x1 n e)
    have tv2 : IsPair g2 V a b := x2 ap.TOz ap.TOi1 tv
    refine wpAny_bind (wpAny_seqItems tv2 rfl (wpAny_bind (wpAny_updateSeq_pair tv2 fun g3 tv3 e3 => wpAny_bind (wpAny_letGo (wpAny_pure ?_)))))
    refine wpAny_bind (wpAny_bind (wpAny_onRaise ?_))
    show wpAny _ _ (Builtin.SmallTypes.nextOf (.ref j) >>= _) _ _ _
    have x3 : ∀ {k : Addr} {o : Obj}, k ≠ z → k ≠ i → k ≠ V → s.heap.get? k = some o → g3.get? k = some o := fun n n2 n3 e => e3.extBut _ _ n3 (x2 n n2 e)
    refine wpAny_bind (draw_end hh (dj.at fun o e => x3 ap.i2z ap.i12.symm ap.TOi2.symm e) (sm.at fun o e => x3 ap.l2z ap.l2i1 ap.l2TO e) gy fun g4 e e4 he => ?_)
    obtain ⟨oe, h1, h2⟩ := he
    have z4 : IsZip g4 z U V .ellipsis := e4 _ _ ap.i2z.symm (e3.extBut _ _ ap.TOz.symm (e2.extBut _ _ ap.i1z.symm z1'))
    have ne : e ≠ z := fun y => by subst y; rw [z4] at h1; cases h1; simp at h2
    exact wpAny_setField_rec z4 (by simp) fun g5 _ e5 => out g5 e (fun k o n1 n2 n3 n4 y => e5.extBut _ _ n1 (e4 _ _ n4 (x3 n1 n3 n2 y))) ⟨oe, e5.extBut _ _ ne h1, h2⟩
theorem zipk_next {p q : Bool} {z U V i j l m : Addr} {c d : Nat} {xs ys : Array Value} {x y a b : Value} {Q : Option Value → Shared → Prop} (ap : ZipApart z U V i j l m) (zz : IsZip s.heap z U V .none) (tu : IsPair s.heap U (.ref i) (.ref j))
    (tv : IsPair s.heap V a b) (di : Ik p s.heap i l c) (dj : Ik q s.heap j m d) (sl : Sk p s.heap l xs) (sm : Sk q s.heap m ys) (gx : xs[c]? = some x) (gy : ys[d]? = some y)
    (fin : ∀ h', IsZip h' z U V (rawInt s.heap.objs.size) → IsPair h' V x y → Ik p h' i l (c + 1) → Ik q h' j m (d + 1) → IsPair h' s.heap.objs.size x y → h'.objs.size = s.heap.objs.size + 1 →
      (∀ k o, k ≠ z → k ≠ V → k ≠ i → k ≠ j → s.heap.get? k = some o → h'.get? k = some o) → Q (some (.ref s.heap.objs.size)) { s with heap := h' }) : wpAny (model prog w) A (pyNext (.ref z)) Q E s := by
  have ty : s.TypeIs (.ref z) "zip" := ⟨_, zz, rfl⟩
  unfold pyNext
  refine wpAny_bind (wpAny_attempt (wpAny_callSpecial?_slot (name := Str.ofString "__next__") ty F.slot_zip_next (wpAny_call_entry F.slot_zip_next ty F.entry_zip_next ?_ (F.args_zip_next_1 _))))
  exact zipk_item ap zz tu tv di dj sl sm gx gy fun h' b1 b2 b3 b4 b5 b6 b7 => wpAny_pure (fin h' b1 b2 b3 b4 b5 b6 b7)
theorem zipk_stop {p q : Bool} {z U V i j l m : Addr} {c d : Nat} {xs ys : Array Value} {a b : Value} {Q : Option Value → Shared → Prop} (hh : A.handled = none) (ap : ZipApart z U V i j l m) (zz : IsZip s.heap z U V .none) (tu : IsPair s.heap U (.ref i) (.ref j))
    (tv : IsPair s.heap V a b) (di : Ik p s.heap i l c) (dj : Ik q s.heap j m d) (sl : Sk p s.heap l xs) (sm : Sk q s.heap m ys) (stop : xs[c]? = none ∨ ys[d]? = none)
    (fin : ∀ h', (∀ k o, k ≠ z → k ≠ V → k ≠ i → k ≠ j → s.heap.get? k = some o → h'.get? k = some o) → Q none { s with heap := h' }) : wpAny (model prog w) A (pyNext (.ref z)) Q E s := by
  have ty : s.TypeIs (.ref z) "zip" := ⟨_, zz, rfl⟩
  unfold pyNext
  refine wpAny_bind (wpAny_attempt (wpAny_callSpecial?_slot (name := Str.ofString "__next__") ty F.slot_zip_next (wpAny_call_entry F.slot_zip_next ty F.entry_zip_next ?_ (F.args_zip_next_1 _))))
  refine zipk_end hh ap zz tu tv di dj sl sm stop fun h' e k he => ?_
  rcases he with ⟨o, e1, e2⟩
  exact wpAny_bind (wpAny_isInstance (T := "StopIteration") (b := true) ⟨o, e1, e2⟩ isSubtype_stop (wpAny_pure (fin _ k)))
/-! zip(a, b) made -/
def itO (p : Bool) (l : Addr) : Obj := { cls := .type (if p then "tuple_iterator" else "list_iterator"), data := .fields #[.ref l, .int 0 0] }
def zN1 (p : Bool) (h : Heap) (l : Addr) : Heap := h.push (itO p l)
def zN2 (p q : Bool) (h : Heap) (l m : Addr) : Heap := (zN1 p h l).push (itO q m)
def zN3 (p q : Bool) (h : Heap) (l m : Addr) : Heap := (zN2 p q h l m).push { cls := .type "tuple", data := .seq #[.ref h.objs.size, .ref (zN1 p h l).objs.size] }
def zN4 (p q : Bool) (h : Heap) (l m : Addr) : Heap := (zN3 p q h l m).push { cls := .type "tuple", data := .seq #[.none, .none] }
def zN5 (p q : Bool) (h : Heap) (l m : Addr) : Heap := (zN4 p q h l m).push { cls := .type "zip", data := .fields #[.none, .bool false, .bool false, .ref (zN2 p q h l m).objs.size, .ref (zN3 p q h l m).objs.size] }
theorem it_of {p : Bool} {h : Heap} {l : Addr} {xs : Array Value} {Q : Value → Shared → Prop} {g : Array GenState} {d : Drawn} {t : Nat} {os : OsState} (sl : Sk p h l xs) (k : Q (.ref h.objs.size) ⟨h.push (itO p l), g, d, t, os⟩) :
    wpAny (model prog w) A (pyIter (.ref l)) Q E ⟨h, g, d, t, os⟩ := by
  cases p with
  | true => exact wpAny_pyIter_tuple (s := ⟨h, g, d, t, os⟩) sl k
  | false => exact wpAny_pyIter_list (s := ⟨h, g, d, t, os⟩) sl k
theorem sk_push {p : Bool} {h : Heap} {l : Addr} {xs : Array Value} {o : Obj} (sl : Sk p h l xs) : Sk p (h.push o) l xs := sl.at fun _ e => Heap.get?_push_of_some _ e
end
theorem meets_zipk (p q : Bool) (l m : Addr) (xs ys : Array Value) :
    Meets (Builtin.«zip.__new__» ⟨[.type "zip", .ref l, .ref m], []⟩) (fun _ R s => Sk p s.heap l xs ∧ Sk q s.heap m ys ∧ R (.ok (.ret (.ref (zN4 p q s.heap l m).objs.size))) { s with heap := zN5 p q s.heap l m }) :=
  .of_wp fun prog w A R s hyp => by
    obtain ⟨hp, g, d, tk, os⟩ := s
    obtain ⟨h1, h2, hr⟩ := hyp
    have sub := sub_zip
    have h1' : Sk p hp l xs := h1
    have h2' : Sk q (hp.push (itO p l)) m ys := sk_push h2
    wp_walk using it_of h1', it_of h2'
    exact ⟨_, rfl, hr⟩
section
variable {prog : Program} {w : World} {A : Around} {E : Value → Shared → Prop} {s : Shared}
theorem itO_ik {p : Bool} {h : Heap} {a l : Addr} (e : h.get? a = some (itO p l)) : Ik p h a l 0 := by
  cases p <;> exact ⟨_, e, rfl, rfl⟩
theorem call_zipk {p q : Bool} {l m : Addr} {xs ys : Array Value} {Q : Value → Shared → Prop} (sl : Sk p s.heap l xs) (sm : Sk q s.heap m ys)
    (fin : ∀ h', IsZip h' (s.heap.objs.size + 4) (s.heap.objs.size + 2) (s.heap.objs.size + 3) .none → IsPair h' (s.heap.objs.size + 2) (.ref s.heap.objs.size) (.ref (s.heap.objs.size + 1)) → IsPair h' (s.heap.objs.size + 3) .none .none →
      Ik p h' s.heap.objs.size l 0 → Ik q h' (s.heap.objs.size + 1) m 0 → h'.objs.size = s.heap.objs.size + 5 → (∀ c o, s.heap.get? c = some o → h'.get? c = some o) → Q (.ref (s.heap.objs.size + 4)) { s with heap := h' }) :
    wpAny (model prog w) A (call (.type "zip") [.ref l, .ref m]) Q E s := by
  refine callType_new F.called_zip (by decide) (F.typeCall_zip_2 _ _) (F.newCall_zip_2 _ _) (fun obj => F.args_object_init_3 obj _ _) F.entry_zip_new (meets_zipk p q l m xs ys) ⟨sl, sm, ?_⟩
  have n1 : (zN1 p s.heap l).objs.size = s.heap.objs.size + 1 := Heap.size_push ..
  have n2 : (zN2 p q s.heap l m).objs.size = s.heap.objs.size + 2 := (Heap.size_push ..).trans (by rw [n1])
  have n3 : (zN3 p q s.heap l m).objs.size = s.heap.objs.size + 3 := (Heap.size_push ..).trans (by rw [n2])
  have n4 : (zN4 p q s.heap l m).objs.size = s.heap.objs.size + 4 := (Heap.size_push ..).trans (by rw [n3])
  have n5 : (zN5 p q s.heap l m).objs.size = s.heap.objs.size + 5 := (Heap.size_push ..).trans (by rw [n4])
  have up4 : ∀ {c : Addr} {o : Obj}, (zN4 p q s.heap l m).get? c = some o → (zN5 p q s.heap l m).get? c = some o := fun e => Heap.get?_push_of_some _ e
  have up3 : ∀ {c : Addr} {o : Obj}, (zN3 p q s.heap l m).get? c = some o → (zN5 p q s.heap l m).get? c = some o := fun e => up4 (Heap.get?_push_of_some _ e)
  have up2 : ∀ {c : Addr} {o : Obj}, (zN2 p q s.heap l m).get? c = some o → (zN5 p q s.heap l m).get? c = some o := fun e => up3 (Heap.get?_push_of_some _ e)
  have up1 : ∀ {c : Addr} {o : Obj}, (zN1 p s.heap l).get? c = some o → (zN5 p q s.heap l m).get? c = some o := fun e => up2 (Heap.get?_push_of_some _ e)
  have o5 : (zN5 p q s.heap l m).get? (zN4 p q s.heap l m).objs.size = some { cls := .type "zip", data := .fields #[.none, .bool false, .bool false, .ref (zN2 p q s.heap l m).objs.size, .ref (zN3 p q s.heap l m).objs.size] } := Heap.get?_push_size _ rfl
  have o4 : (zN5 p q s.heap l m).get? (zN3 p q s.heap l m).objs.size = some { cls := .type "tuple", data := .seq #[.none, .none] } := up4 (Heap.get?_push_size _ rfl)
  have o3 : (zN5 p q s.heap l m).get? (zN2 p q s.heap l m).objs.size = some { cls := .type "tuple", data := .seq #[.ref s.heap.objs.size, .ref (zN1 p s.heap l).objs.size] } := up3 (Heap.get?_push_size _ rfl)
  have o2 : (zN5 p q s.heap l m).get? (zN1 p s.heap l).objs.size = some (itO q m) := up2 (Heap.get?_push_size _ (by cases q <;> rfl))
  have o1 : (zN5 p q s.heap l m).get? s.heap.objs.size = some (itO p l) := up1 (Heap.get?_push_size _ (by cases p <;> rfl))
  show _ ∧ _
  rw [n2, n3, n4] at o5
  rw [n1, n2] at o3
  rw [n3] at o4
  rw [n1] at o2
  rw [n4]
  exact ⟨⟨_, o5, rfl⟩, fin _ o5 o3 o4 (itO_ik o1) (itO_ik o2) n5 fun c o e => up1 (Heap.get?_push_of_some _ e)⟩
end
/-! over the layer -/
def Qk (p : Bool) (K : PySem.W.Frag) (H : Hp) (a : Addr) (xs : List V) : Prop := if p then SqT K H a xs else SqL K H a xs
section
variable {X : Cx} {pins : List (Addr × Obj)} {σ : St} {H : Hp} {s : Shared} {a b : Addr} {xs ys : List V} {p q : Bool}
theorem kq_at (I : Inv X pins σ H s) (h : Qk p X.K H a xs) : ∃ its : List Value, Vals xs its ∧ Sk p s.heap a its.toArray := by
  cases p with
  | true =>
    rcases I.tuple h with ⟨its, r, t, _⟩
    exact ⟨its, r, t⟩
  | false =>
    rcases I.list h with ⟨its, r, t, _⟩
    exact ⟨its, r, t.isList⟩
theorem kq_inj (I : Inv X pins σ H s) (h : Qk p X.K H a xs) (h' : Qk p X.K H a ys) : xs = ys := by
  cases p with
  | true => exact I.tuple_inj h h'
  | false => exact I.list_inj h h'
/-- zip's iterator -/
def Izk (p q : Bool) (K : PySem.W.Frag) (a b : Addr) : It where
  go := fun i H => ∃ (xs ys : List V) (x y : V), Qk p K H a xs ∧ Qk q K H b ys ∧ xs[i]? = some x ∧ ys[i]? = some y
  yld := fun i H v H' => ∃ T x y, v = .ref T ∧ H T = none ∧ H' = upd H T (.tup [x, y]) ∧ (∀ xs, Qk p K H a xs → xs[i]? = some x) ∧ ∀ ys, Qk q K H b ys → ys[i]? = some y
  stop := fun i H => ∃ xs ys : List V, Qk p K H a xs ∧ Qk q K H b ys ∧ (xs.length ≤ i ∨ ys.length ≤ i)
theorem turn_zipk {P : Program} {w : World} {K : PySem.W.Frag} {elts : List Expr} {kk : Nat} {tpos : Pos} {z U V1 i1 i2 : Addr} (ap : ZipApart z U V1 i1 i2 a b) :
    Turn P w K (.Tuple elts kk tpos) (Izk p q K a b) [z, U, V1, i1, i2] z (fun i h => IsZip h z U V1 .none ∧ IsPair h U (.ref i1) (.ref i2) ∧ (∃ x y, IsPair h V1 x y) ∧ Ik p h i1 a i ∧ Ik q h i2 b i) where
  mem := by simp
  obj := fun i h st c hc => by
    rcases st with ⟨e1, e2, ⟨x, y, e3⟩, e4, e5⟩
    rcases e4.obj with ⟨o4, v4, f4, d4⟩
    rcases e5.obj with ⟨o5, v5, f5, d5⟩
    have cs : c = z ∨ c = U ∨ c = V1 ∨ c = i1 ∨ c = i2 := by simpa using hc
    rcases cs with rfl | rfl | rfl | rfl | rfl
    · exact ⟨_, e1, fun v q => nomatch q⟩
    · exact ⟨_, e2, fun v q => nomatch q⟩
    · exact ⟨_, e3, fun v q => nomatch q⟩
    · exact ⟨o4, f4, fun v q => by rw [d4] at q; cases q⟩
    · exact ⟨o5, f5, fun v q => by rw [d5] at q; cases q⟩
  keep := fun i h h' st k => by
    rcases st with ⟨e1, e2, ⟨x, y, e3⟩, e4, e5⟩
    exact ⟨k z (by simp) _ e1, k U (by simp) _ e2, ⟨x, y, k V1 (by simp) _ e3⟩, e4.at fun o e => k i1 (by simp) o e, e5.at fun o e => k i2 (by simp) o e⟩
  item := by
    intro X hP hw hK hc i pins s σ H E I hf st hg
    subst hP hw hK
    rcases st with ⟨e1, e2, ⟨x0, y0, e3⟩, e4, e5⟩
    rcases hg with ⟨xs, ys, x, y, hqx, hqy, hx, hy⟩
    rcases kq_at I hqx with ⟨its, rv, sl⟩
    rcases kq_at I hqy with ⟨its2, rv2, sm⟩
    obtain ⟨u, hu, ru⟩ := rv.get hx
    obtain ⟨u2, hu2, ru2⟩ := rv2.get hy
    have zl : z < s.heap.objs.size := Heap.lt_size e1
    refine zipk_next ap e1 e2 e3 e4 e5 sl sm (x := u) (y := u2) (by simpa using hu) (by simpa using hu2) fun h' z' t' d1 d2 tT hsz hk => ?_
    refine ⟨_, rfl, wpAny_letOwnedTupleGo_zip (s := { s with heap := h' }) z' fun h'' z'' sb => ?_⟩
    have tT2 : h''.get? s.heap.objs.size = some { cls := .type "tuple", data := .seq #[u, u2] } := (sb.2 _ (Nat.ne_of_gt zl)).trans tT
    have new : ObjOk X.prog X.w (upd H s.heap.objs.size (.tup [x, y])) h'' s.heap.objs.size (.tup [x, y]) :=
      ⟨by show 2 ≤ sizeLine; decide, [u, u2], .cons ru (.cons ru2 .nil), ⟨_, tT2, rfl, _, rfl⟩⟩
    have J := I.turnedNew (t' := s.toks) (ch := [z, U, V1, i1, i2]) (fun c o hb e => (sb.2 c (fun y => hb (by simp [y]))).trans (hk c o (fun y => hb (by simp [y])) (fun y => hb (by simp [y])) (fun y => hb (by simp [y])) (fun y => hb (by simp [y])) e)) hf (Nat.le_refl _) new
    refine ⟨.ref s.heap.objs.size, _, J, rfl, ⟨_, x, y, rfl, I.hok.fresh (Nat.le_refl _), rfl, fun l hl => by rw [kq_inj I hl hqx]; exact hx, fun l hl => by rw [kq_inj I hl hqy]; exact hy⟩, ⟨z'', ?_, ⟨u, u2, ?_⟩, ?_, ?_⟩, fun c hcm => ?_⟩
    · exact (sb.2 _ ap.TIz).trans (hk _ _ ap.TIz ap.TITO ap.TIi1 ap.TIi2 e2)
    · exact (sb.2 _ ap.TOz).trans t'
    · exact d1.at fun o e => (sb.2 _ ap.i1z).trans e
    · exact d2.at fun o e => (sb.2 _ ap.i2z).trans e
    · have lt : c < s.heap.objs.size := by
        rcases e4.obj with ⟨o4, v4, f4, _⟩
        rcases e5.obj with ⟨o5, v5, f5, _⟩
        have cs : c = z ∨ c = U ∨ c = V1 ∨ c = i1 ∨ c = i2 := by simpa using hcm
        rcases cs with rfl | rfl | rfl | rfl | rfl
        · exact zl
        · exact Heap.lt_size e2
        · exact Heap.lt_size e3
        · exact Heap.lt_size f4
        · exact Heap.lt_size f5
      rw [upd_ne (Nat.ne_of_lt lt)]
      exact (hf c hcm).1
  done := by
    intro X hP hw hK hc i pins s σ H E I hf st hg
    subst hP hw hK
    rcases st with ⟨e1, e2, ⟨x0, y0, e3⟩, e4, e5⟩
    rcases hg with ⟨xs, ys, hqx, hqy, fin⟩
    rcases kq_at I hqx with ⟨its, rv, sl⟩
    rcases kq_at I hqy with ⟨its2, rv2, sm⟩
    have l1 := rv.length
    have l2 := rv2.length
    have he : its.toArray[i]? = none ∨ its2.toArray[i]? = none := fin.imp (fun y => by simp; omega) fun y => by simp; omega
    exact zipk_stop (I.ok.hd hc) ap e1 e2 e3 e4 e5 sl sm he fun h' hk => ⟨rfl, I.turnedL (t' := s.toks) (ch := [z, U, V1, i1, i2]) (fun c o hb e =>
      hk c o (fun y => hb (by simp [y])) (fun y => hb (by simp [y])) (fun y => hb (by simp [y])) (fun y => hb (by simp [y])) e) hf⟩
  self := fun A i s Q E st h => wpAny_pyIter_zip st.1 h
def tiZk (p q : Bool) (K : PySem.W.Frag) (ta : TA) : TI := fun σ H R => ta σ H fun vs H1 => ∃ a b xs ys, vs = [.ref a, .ref b] ∧ Qk p K H1 a xs ∧ Qk q K H1 b ys ∧ R (Izk p q K a b) H1
theorem pi_zipk (p q : Bool) {e e2 : Expr} {ta : TA} {pz pos tpos : Pos} {elts : List Expr} {kk : Nat} (hg : Gl X "zip") (hm : X.mg "zip" = none) (ha : PA X [e, e2] ta)
    (hs : starEach [e, e2] X.env = (false, eval e X.env) :: starEach [e2] X.env) (hpl : (backTo pos (starEach [e2] X.env)).any (·.1) = false) :
    PI X (.Tuple elts kk tpos) (.Call (.Name "zip" pz) [e, e2] [] pos) (tiZk p q X.K ta) := by
  refine ⟨fun pins s σ H R I h => PyProof.Rows.Call_ (ld_blt I hg hm PyProof.Rows.boot_zip (PyProof.Rows.callWith_type1 (thn (ha.run pos pins s σ H _ I h) fun us s1 h1 => ?_) hs hpl))⟩
  rcases h1 with ⟨vs, H1, I1, r1, a, b, xs, ys, rfl, hqx, hqy, hR⟩
  cases r1 with
  | cons r rr =>
    cases rr with
    | cons r' rr =>
      cases rr
      cases r
      cases r'
      rcases kq_at I1 hqx with ⟨its, rv, sl⟩
      rcases kq_at I1 hqy with ⟨its2, rv2, sm⟩
      refine call_zipk sl sm fun h' b1 b2 b3 b4 b5 hsz hk => wpAny_pyIter_zip b1 ?_
      refine ⟨s1.heap.objs.size + 4, [s1.heap.objs.size + 4, s1.heap.objs.size + 2, s1.heap.objs.size + 3, s1.heap.objs.size, s1.heap.objs.size + 1], _, _, H1, rfl, I1.kept (t' := s1.toks) hk, turn_zipk (PySem.W.ktu_apart s1.heap.objs.size a b sl.lt sm.lt), ⟨b1, b2, ⟨_, _, b3⟩, b4, b5⟩, fun c hcm => ?_, hR⟩
      have cs : c = s1.heap.objs.size + 4 ∨ c = s1.heap.objs.size + 2 ∨ c = s1.heap.objs.size + 3 ∨ c = s1.heap.objs.size ∨ c = s1.heap.objs.size + 1 := by simpa using hcm
      have le : s1.heap.objs.size ≤ c := by
        rcases cs with z | z | z | z | z
        · rw [z]; exact Nat.le_add_right _ _
        · rw [z]; exact Nat.le_add_right _ _
        · rw [z]; exact Nat.le_add_right _ _
        · rw [z]; exact Nat.le_refl _
        · rw [z]; exact Nat.le_add_right _ _
      exact I1.fpOk le (I1.hok.fresh le)
end
section
variable {X : Cx} {W : WX} {ρ : List Slot} {T U A B : Type} [Rp T] [Rp U] [Rp A] [Rp B] {a c tg : Expr} {pos : Pos}
theorem sqlSame {K : PySem.W.Frag} {H H' : Hp} {a : Addr} {xs : List V} (e : Same H H') (h : SqL K H a xs) : SqL K H' a xs := by
  rcases h with (h | ⟨o, h⟩) | h
  · exact .inl (.inl (e _ _ h))
  · exact .inl (.inr ⟨o, e _ _ h⟩)
  · exact .inr h
theorem Qk.same {k : Bool} {K : PySem.W.Frag} {H H' : Hp} {a : Addr} {xs : List V} (s : Same H H') (h : Qk k K H a xs) : Qk k K H' a xs := by
  cases k with
  | true => exact SqT.same s h
  | false => exact sqlSame s h
/-- the picture of x is a list or a tuple of f x -/
def Pic (k : Bool) (f : A → List T) : Prop := ∀ (K : PySem.W.Frag) (H : Hp) (v : V) (x : A), rp K H v x → ∃ a vs, v = .ref a ∧ Qk k K H a vs ∧ RpAll K H vs (f x)
theorem i_zipk (k1 k2 : Bool) {f : A → List T} {f2 : B → List U} (pf : Pic k1 f) (pf2 : Pic k2 f2) {m : Res A} {mc : Res B} {p : Pos} {elts : List Expr} {kk : Nat} {tpos : Pos} (h : EG X W true ρ a m) (h2 : EG X W true ρ c mc) (hm : X.mg "zip" = none) (hg : Gl X "zip")
    (he : starEach (a :: [c]) X.env = (false, eval a X.env) :: starEach [c] X.env) (he2 : starEach (c :: []) X.env = (false, eval c X.env) :: starEach [] X.env) (hpl : (backTo pos (starEach [c] X.env)).any (·.1) = false) :
    IJ X W ρ (.Tuple elts kk tpos) (.Call (.Name "zip" p) [a, c] [] pos) (m.bind fun xs => mc.bind fun ys => .ok ((f xs).zip (f2 ys))) := by
  obtain ⟨t, p, q⟩ := h.ex
  obtain ⟨tc, pc, qc⟩ := h2.ex
  refine ⟨_, pi_zipk k1 k2 hg hm (pa_cons p (pa_cons pc pa_nil he2) he) he hpl, fun S own σ H R rs hp => q S own σ H _ rs (hp.bind.imp (fun xs hx H1 v s1 r => qc S own σ H1 _ (rs.mono s1) (hx.bind.imp (fun ys hy H' u s2 r2 => ?_) fun _ z => z.mono s1)) fun _ z => z)⟩
  obtain ⟨a, vs, rfl, e1, e2⟩ := pf _ _ _ _ r
  obtain ⟨b, us, rfl, e3, e4⟩ := pf2 _ _ _ _ r2
  have e1 := Qk.same (hide_same s2) e1
  have e2 := RpAll.mono (hide_same s2) e2
  have s := s1.trans s2
  have hlen : ((f xs).zip (f2 ys)).length = min vs.length us.length := by rw [List.length_zip, e2.length, e4.length]
  refine ⟨a, b, vs, us, rfl, Qk.same hide_sub e1, Qk.same hide_sub e3, hy _ H' s ⟨fun i H2 hi s2 => ?_, fun H2 s2 => ?_, fun i H2 v H3 x B2 ei s2 hd hyy => ?_⟩⟩
  · have h1 : i < vs.length := by rw [hlen] at hi; omega
    have h2 : i < us.length := by rw [hlen] at hi; omega
    exact ⟨vs, us, vs[i], us[i], Qk.same s2 e1, Qk.same s2 e3, List.getElem?_eq_getElem h1, List.getElem?_eq_getElem h2⟩
  · exact ⟨vs, us, Qk.same s2 e1, Qk.same s2 e3, by rw [hlen]; omega⟩
  · obtain ⟨Tt, x1, y1, rfl, hT, rfl, f1, f2⟩ := hyy
    rw [List.getElem?_zip_eq_some] at ei
    obtain ⟨v', e5, r5⟩ := e2.get ei.1
    obtain ⟨u', e6, r6⟩ := e4.get ei.2
    have f1 := f1 vs (Qk.same (s2.trans hide_sub) e1)
    have f2 := f2 us (Qk.same (s2.trans hide_sub) e3)
    rw [e5] at f1
    rw [e6] at f2
    cases f1
    cases f2
    exact pair_new hT hd (Rp.mono s2 r5) (Rp.mono s2 r6)
theorem pic_l : Pic (T := T) false (fun x : List T => x) := fun K H v x ⟨a, vs, e, h1, h2⟩ => ⟨a, vs, e, .inl (.inl h1), h2⟩
theorem pic_t : Pic (T := T) true (fun x : Tup T => x.l) := fun K H v x ⟨a, vs, e, h1, h2⟩ => ⟨a, vs, e, h1, h2⟩
/-- a type whose values are lists or tuples, by the value -/
class Seqn (A : Type) (T : outParam Type) [Rp A] [Rp T] where
  k : A → Bool
  f : A → List T
  pic : ∀ (K : PySem.W.Frag) (H : Hp) (v : V) (x : A), rp K H v x → ∃ a vs, v = .ref a ∧ Qk (k x) K H a vs ∧ RpAll K H vs (f x)
instance : Seqn (List T) T := ⟨fun _ => false, fun x => x, fun K H v x h => pic_l K H v x h⟩
instance : Seqn (Tup T) T := ⟨fun _ => true, fun x => x.l, fun K H v x h => pic_t K H v x h⟩
instance : Seqn (Sq T) T := ⟨fun x => x.t, fun x => x.l, fun K H v x h => by
  obtain ⟨t, l⟩ := x
  cases t with
  | true => exact pic_t K H v (Tup.mk l) h
  | false => exact pic_l K H v l h⟩
/-- a list or a tuple, the kind k known -/
structure KL (k : Bool) (T : Type) where
  l : List T
instance {k : Bool} : Rp (KL k T) where
  rp K H v x := ∃ a vs, v = .ref a ∧ Qk k K H a vs ∧ RpAll K H vs x.l
  mono {K H H' v x} s h := by
    obtain ⟨a, vs, e, h1, h2⟩ := h
    exact ⟨a, vs, e, Qk.same s h1, RpAll.mono s h2⟩
theorem pic_k {k : Bool} : Pic k (fun x : KL k T => x.l) := fun K H v x h => h
theorem eg_kl [Seqn A T] {m : Res A} (h : EG X W true ρ a m) : ∃ (k : Bool) (m' : Res (KL k T)), EG X W true ρ a m' ∧ (m.bind fun x => .ok (Seqn.f x)) = m'.bind fun x => .ok x.l := by
  cases m with
  | ok x => exact ⟨Seqn.k x, .ok ⟨Seqn.f x⟩, h.as fun K H v r => Seqn.pic K H v x r, rfl⟩
  | err z => exact ⟨true, .err z, h.asE, rfl⟩
  | bad => exact ⟨true, .bad, h.asB, rfl⟩
theorem i_zips [Seqn A T] [Seqn B U] {m : Res A} {mc : Res B} {p : Pos} {elts : List Expr} {kk : Nat} {tpos : Pos} (h : EG X W true ρ a m) (h2 : EG X W true ρ c mc) (hm : X.mg "zip" = none) (hg : Gl X "zip" := by rfl)
    (he : starEach (a :: [c]) X.env = (false, eval a X.env) :: starEach [c] X.env := by rfl) (he2 : starEach (c :: []) X.env = (false, eval c X.env) :: starEach [] X.env := by rfl) (hpl : (backTo pos (starEach [c] X.env)).any (·.1) = false := by rfl) :
    IJ X W ρ (.Tuple elts kk tpos) (.Call (.Name "zip" p) [a, c] [] pos) (m.bind fun xs => mc.bind fun ys => .ok ((Seqn.f xs : List T).zip (Seqn.f ys : List U))) := by
  obtain ⟨k1, n1, g1, q1⟩ := eg_kl (T := T) h
  obtain ⟨k2, n2, g2, q2⟩ := eg_kl (T := U) h2
  have r := i_zipk k1 k2 pic_k pic_k g1 g2 hm hg he he2 hpl (p := p) (elts := elts) (kk := kk) (tpos := tpos)
  have e : (m.bind fun xs => mc.bind fun ys => .ok ((Seqn.f xs : List T).zip (Seqn.f ys : List U))) = n1.bind fun xs => n2.bind fun ys => .ok (xs.l.zip ys.l) := by
    have e1 : (m.bind fun xs => mc.bind fun ys => .ok ((Seqn.f xs : List T).zip (Seqn.f ys : List U))) = (m.bind fun x => .ok (Seqn.f x : List T)).bind fun xs => (mc.bind fun y => .ok (Seqn.f y : List U)).bind fun ys => .ok (xs.zip ys) := by
      cases m <;> cases mc <;> rfl
    rw [e1, q1, q2]
    cases n1 <;> cases n2 <;> rfl
  rw [e]
  exact r
theorem e_tupoft {p : Pos} {ma : Res (Tup T)} (ha : EG X W true ρ a ma) (hm : X.mg "tuple" = none) (hg : Gl X "tuple" := by rfl)
    (he : starEach [a] X.env = (false, eval a X.env) :: starEach [] X.env := by rfl) (hpl : (backTo pos (starEach [] X.env)).any (·.1) = false := by rfl) : EG X W true ρ (.Call (.Name "tuple" p) [a] [] pos) (ma.bind fun xs => .ok xs) := by
  obtain ⟨ta, pa, qa⟩ := ha.ex
  refine ⟨_, pe_callTy call_tuple_of hg hm (by decide +kernel) (pa_cons pa pa_nil he) (by decide) (by decide) he hpl, fun S own σ H Q rs h => one_run (R' := fun v H2 => ∃ p ys, [v] = [V.ref p] ∧ ((SqL X.K H2 p ys ∧ ∀ l, H2 l = none → Q (.ref l) (upd H2 l (.tup ys))) ∨ (SqT X.K H2 p ys ∧ Q (.ref p) H2))) qa rs h fun xs v H2 s r1 hp => ?_⟩
  obtain ⟨a, vs, rfl, h1, r2⟩ := r1
  exact ⟨a, vs, rfl, .inr ⟨SqT.same hide_sub h1, hp _ _ s ⟨a, vs, rfl, h1, r2⟩⟩⟩
theorem e_tupofsq {p : Pos} {m : Res (Sq T)} (h : EG X W true ρ a m) (hm : X.mg "tuple" = none) (hg : Gl X "tuple" := by rfl)
    (he : starEach [a] X.env = (false, eval a X.env) :: starEach [] X.env := by rfl) (hpl : (backTo pos (starEach [] X.env)).any (·.1) = false := by rfl) : EG X W true ρ (.Call (.Name "tuple" p) [a] [] pos) (m.bind fun x => .ok (Tup.mk x.l)) := by
  cases m with
  | ok x =>
    obtain ⟨t, l⟩ := x
    cases t with
    | true => exact e_tupoft (ma := .ok (Tup.mk l)) (h.as fun _ _ _ r => r) hm hg he hpl
    | false => exact e_tupof (ma := .ok l) (EG.lg (h.as fun _ _ _ r => r)) hm hg he hpl
  | err z => exact e_tupoft (ma := (.err z : Res (Tup T))) h.asE hm hg he hpl
  | bad => exact e_tupoft (ma := (.bad : Res (Tup T))) h.asB hm hg he hpl
theorem e_sqTp {g : Bool} {x : Tup T} (h : EG X W g ρ a (.ok x)) : EG X W g ρ a (.ok (Sq.mk true x.l)) := e_sqT h
theorem e_sqLp {g : Bool} {x : List T} (h : EG X W g ρ a (.ok x)) : EG X W g ρ a (.ok (Sq.mk false x)) := e_sqL h
theorem i_sqp {x : Sq T} (h : EG X W true ρ a (.ok x)) : IJ X W ρ tg a (.ok x.l) := i_sq h
theorem e_ixsqp {x : Sq T} {i : Int} (h : EG X W true ρ a (.ok x)) (hi : EG X W true ρ c (.ok i)) (hs : PlainIx c := by exact fun _ _ => rfl) : EG X W true ρ (.Subscript a c pos) (idxM x.l i) := e_ixsq h hi hs
theorem f_listofsqp {p : Pos} {x : Sq T} (h : EG X W true ρ a (.ok x)) (hm : X.mg "list" = none) (hg : Gl X "list" := by rfl)
    (he : starEach [a] X.env = (false, eval a X.env) :: starEach [] X.env := by rfl) (hpl : (backTo pos (starEach [] X.env)).any (·.1) = false := by rfl) : FG X W ρ (.Call (.Name "list" p) [a] [] pos) (.ok x.l) := f_listofsq h hm hg he hpl
theorem e_tupofsqp {p : Pos} {x : Sq T} (h : EG X W true ρ a (.ok x)) (hm : X.mg "tuple" = none) (hg : Gl X "tuple" := by rfl)
    (he : starEach [a] X.env = (false, eval a X.env) :: starEach [] X.env := by rfl) (hpl : (backTo pos (starEach [] X.env)).any (·.1) = false := by rfl) : EG X W true ρ (.Call (.Name "tuple" p) [a] [] pos) (.ok (Tup.mk x.l)) := e_tupofsq h hm hg he hpl
theorem e_tupoftp {p : Pos} {x : Tup T} (h : EG X W true ρ a (.ok x)) (hm : X.mg "tuple" = none) (hg : Gl X "tuple" := by rfl)
    (he : starEach [a] X.env = (false, eval a X.env) :: starEach [] X.env := by rfl) (hpl : (backTo pos (starEach [] X.env)).any (·.1) = false := by rfl) : EG X W true ρ (.Call (.Name "tuple" p) [a] [] pos) (.ok x) := e_tupoft h hm hg he hpl
instance [Dat T] : Dat (Sq T) where
  toD x := match x with
    | ⟨true, l⟩ => Dat.toD (Tup.mk l)
    | ⟨false, l⟩ => Dat.toD l
  ok x := x.l.all Dat.ok
  dp {K H v x} h := by
    obtain ⟨t, l⟩ := x
    cases t with
    | true => exact Dat.dp (T := Tup T) h
    | false => exact Dat.dp (T := List T) h
  lay x h := by
    obtain ⟨t, l⟩ := x
    cases t with
    | true => exact Dat.lay (Tup.mk l) h
    | false => exact Dat.lay l h
  dep := Dat.dep T + 1
  depth x := by
    obtain ⟨t, l⟩ := x
    cases t with
    | true => exact Dat.depth (Tup.mk l)
    | false => exact Dat.depth l
  dec x y := (x.t == y.t) && decAll x.l y.l
  eqv x y := by
    obtain ⟨t, l⟩ := x
    obtain ⟨t2, l2⟩ := y
    cases t <;> cases t2
    · exact (Dat.eqv l l2).trans (by simp; rfl)
    · simp [Dat.toD, PyData.eqv]
    · simp [Dat.toD, PyData.eqv]
    · exact (Dat.eqv (Tup.mk l) (Tup.mk l2)).trans (by simp; rfl)
  iff x y := by
    obtain ⟨t, l⟩ := x
    obtain ⟨t2, l2⟩ := y
    simp [decAll_iff]
instance [Dat T] [DatT T] : DatT (Sq T) := ⟨fun xs => List.all_eq_true.mpr fun x _ => DatT.ok x⟩
instance : Ty (Sq T) := ⟨fun x => if x.t then "tuple" else "list", fun {K B H v x} h => by
  obtain ⟨t, l⟩ := x
  cases t with
  | true => exact Ty.ok (T := Tup T) (x := Tup.mk l) h
  | false => exact Ty.ok (T := List T) (x := l) h⟩
end
end Py

set_option Elab.async false
set_option linter.all false
set_option maxRecDepth 100000
set_option maxHeartbeats 4000000
/-! Py, part V: one picture for another; tuples as sequences; index, in. -/
namespace Py
open PySem PySem.Spec L2
open Rp (rp)
/-- a value that stands for x stands for f x -/
structure Up {A B : Type} [Rp A] [Rp B] (f : A → B) : Prop where
  k : ∀ (K : PySem.W.Frag) (H : Hp) (v : V) (x : A), rp K H v x → rp K H v (f x)
class NN (T : Type) [Rp T] : Prop where
  nn : ∀ {K : PySem.W.Frag} {H : Hp} {v : V} {x : T}, rp K H v x → v ≠ .non
instance : NN Int := ⟨fun h => by rw [show _ = _ from h]; intro z; cases z⟩
instance : NN Bool := ⟨fun h => by rw [show _ = _ from h]; intro z; cases z⟩
instance : NN Str := ⟨fun h => by rw [show _ = _ from h]; intro z; cases z⟩
instance {T : Type} [Rp T] : NN (List T) := ⟨fun h => by obtain ⟨a, vs, e, _⟩ := h; rw [e]; intro z; cases z⟩
instance {T : Type} [Rp T] : NN (Tup T) := ⟨fun h => by obtain ⟨a, vs, e, _⟩ := h; rw [e]; intro z; cases z⟩
instance {T : Type} [Places T] : NN T := ⟨fun h => by obtain ⟨a, vs, e, _⟩ := h; rw [e]; intro z; cases z⟩
section
variable {A B C A' B' C' D D' T : Type} [Rp A] [Rp B] [Rp C] [Rp A'] [Rp B'] [Rp C'] [Rp D] [Rp D'] [Rp T]
theorem up_id : Up (fun x : A => x) := ⟨fun _ _ _ _ h => h⟩
theorem up_T : Up (fun x : Tup T => Sq.mk true x.l) := ⟨fun _ _ _ _ h => h⟩
theorem up_L : Up (fun x : List T => Sq.mk false x) := ⟨fun _ _ _ _ h => h⟩
theorem up_D [Dat T] : Up (fun x : T => PD.mk (Dat.toD x)) := ⟨fun _ _ _ _ h => Dat.dp h⟩
theorem up_some [NN T] : Up (fun x : T => some x) := ⟨fun _ _ _ _ h => ⟨h, NN.nn h⟩⟩
theorem up_none : Up (fun _ : Unit => (none : Option T)) := ⟨fun _ _ _ _ h => h⟩
theorem RpAll.up {K : PySem.W.Frag} {H : Hp} {f : A → B} (u : Up f) : ∀ {vs : List V} {xs : List A}, RpAll K H vs xs → RpAll K H vs (xs.map f)
  | _, _, .nil => .nil
  | _, _, .cons r t => .cons (u.k _ _ _ _ r) (RpAll.up u t)
theorem up_list {f : A → B} (u : Up f) : Up (fun x : List A => x.map f) := ⟨fun K H v x ⟨a, vs, e, h1, h2⟩ => ⟨a, vs, e, h1, RpAll.up u h2⟩⟩
theorem up_tup {f : A → B} (u : Up f) : Up (fun x : Tup A => Tup.mk (x.l.map f)) := ⟨fun K H v x ⟨a, vs, e, h1, h2⟩ => ⟨a, vs, e, h1, RpAll.up u h2⟩⟩
theorem up_opt {f : A → B} (u : Up f) : Up (fun x : Option A => x.map f) := ⟨fun K H v x h => by
  cases x with
  | none => exact h
  | some y => exact ⟨u.k _ _ _ _ h.1, h.2⟩⟩
theorem up_P {f : A → A'} {g : B → B'} (u : Up f) (u2 : Up g) : Up (fun p : A × B => (f p.1, g p.2)) := ⟨fun K H v x ⟨a, vs, e, h1, h2⟩ => ⟨a, vs, e, h1, by
  cases h2 with
  | cons r1 h2 =>
    cases h2 with
    | cons r2 h2 => exact .cons (u.k _ _ _ _ r1) (.cons (u2.k _ _ _ _ r2) h2)⟩⟩
theorem up_T3 {f : A → A'} {g : B → B'} {h : C → C'} (u : Up f) (u2 : Up g) (u3 : Up h) : Up (fun p : T3 A B C => (⟨f p.a, g p.b, h p.c⟩ : T3 A' B' C')) := ⟨fun K H v x ⟨a, vs, e, h1, h2⟩ => ⟨a, vs, e, h1, by
  cases h2 with
  | cons r1 h2 =>
    cases h2 with
    | cons r2 h2 =>
      cases h2 with
      | cons r3 h2 => exact .cons (u.k _ _ _ _ r1) (.cons (u2.k _ _ _ _ r2) (.cons (u3.k _ _ _ _ r3) h2))⟩⟩
theorem up_T4 {f : A → A'} {g : B → B'} {h : C → C'} {i : D → D'} (u : Up f) (u2 : Up g) (u3 : Up h) (u4 : Up i) : Up (fun p : T4 A B C D => (⟨f p.a, g p.b, h p.c, i p.d⟩ : T4 A' B' C' D')) := ⟨fun K H v x ⟨a, vs, e, h1, h2⟩ => ⟨a, vs, e, h1, by
  cases h2 with
  | cons r1 h2 =>
    cases h2 with
    | cons r2 h2 =>
      cases h2 with
      | cons r3 h2 =>
        cases h2 with
        | cons r4 h2 => exact .cons (u.k _ _ _ _ r1) (.cons (u2.k _ _ _ _ r2) (.cons (u3.k _ _ _ _ r3) (.cons (u4.k _ _ _ _ r4) h2)))⟩⟩
/-- a tuple of like things as a sequence -/
theorem up_PT : Up (fun p : T × T => Tup.mk [p.1, p.2]) := ⟨fun K H v x ⟨a, vs, e, h1, h2⟩ => ⟨a, vs, e, h1, by
  cases h2 with
  | cons r1 h2 =>
    cases h2 with
    | cons r2 h2 => cases h2; exact .cons r1 (.cons r2 .nil)⟩⟩
end
section
variable {A B C R T U : Type} [Rp A] [Rp B] [Rp C] [Rp R] [Rp T] [Rp U] {X : Cx} {W : WX} {g : Bool} {ρ : List Slot} {a b c e : Expr} {pos : Pos} {lv : Nat}
theorem e_up {f : A → B} {m : Res A} (u : Up f) (h : EG X W g ρ e m) : EG X W g ρ e (m.bind fun x => .ok (f x)) := by
  cases m with
  | ok x => exact h.as fun K H v r => u.k K H v x r
  | err z => exact h.asE
  | bad => exact h.asB
theorem e_upp {f : A → B} {x : A} (u : Up f) (h : EG X W g ρ e (.ok x)) : EG X W g ρ e (.ok (f x)) := e_up u h
theorem l_up {f : A → B} {m : Res (List A)} (u : Up f) (h : LG X W ρ e m) : LG X W ρ e (m.bind fun x => .ok (x.map f)) := by
  obtain ⟨t, p, q⟩ := h.ex
  exact ⟨t, p, fun S own σ H Q rs hp => q S own σ H Q rs (hp.bind.imp (fun x hx H' a vs s e1 e2 => hx H' a vs s e1 (RpAll.up u e2)) fun _ z => z)⟩
theorem f_up {f : A → B} {m : Res (List A)} (u : Up f) (h : FG X W ρ e m) : FG X W ρ e (m.bind fun x => .ok (x.map f)) := by
  obtain ⟨t, p, q⟩ := h.ex
  exact ⟨t, p, fun S own σ H Q rs hp => q S own σ H Q rs (hp.bind.imp (fun x hx H' a vs s na e1 e2 => hx H' a vs s na e1 (RpAll.up u e2)) fun _ z => z)⟩
theorem f_upp {f : A → B} {x : List A} (u : Up f) (h : FG X W ρ e (.ok x)) : FG X W ρ e (.ok (x.map f)) := f_up u h
/-- what is there and not None -/
def getO {α : Type} : Option α → Res α
  | some x => .ok x
  | none => .bad
theorem e_getO {m : Res (Option T)} (h : EG X W g ρ e m) : EG X W g ρ e (m.bind getO) := by
  cases m with
  | ok x =>
    cases x with
    | none =>
      obtain ⟨t, p, q⟩ := h.ex
      exact ⟨t, p, fun S own σ H Q rs hp => hp.elim⟩
    | some y => exact h.as fun K H v r => r.1
  | err z => exact h.asE
  | bad => exact h.asB
theorem e_getOp {x : Option T} (h : EG X W g ρ e (.ok x)) : EG X W g ρ e (getO x) := e_getO h
/-! ### tuples -/
theorem e_tupL {es : List Expr} {A T : Type} [Rp T] {as : A → List AV} {mk : A → Tup T} {m : Res (Tup T)} {x1} (h : AJ X W g ρ es as (fun x => .ok (mk x)) m) (hp : ∀ x, as x = (mk x).l.map av := by intro _; rfl)
    (hz : ∀ x, (mk x).l.length ≤ sizeLine := by intro _; exact Nat.le_of_ble_eq_true rfl) : EG X W g ρ (.Tuple es x1 pos) m := by
  obtain ⟨t, p, q⟩ := h.ex
  refine ⟨_, pe_tup p, fun S own σ H Q rs hP => q S own σ H _ _ _ rs (fun e z => z) hP fun x vs H' s r hx => ?_⟩
  rw [hp] at r
  have r2 := args_all r
  refine ⟨by rw [r2.length]; exact hz x, fun p np => ?_⟩
  have s2 : Same H' (upd H' p (.tup vs)) := same_upd np
  refine hx _ _ (s.trans s2) ⟨p, vs, rfl, .inl (.inl ?_), ?_⟩
  · rw [hide_out fun z => (rs.mono s).dom p (reg_sub p z) np, upd_same]
  · exact RpAll.mono (hide_same s2) r2
def catT {α : Type} (x y : Tup α) : Res (Tup α) := guardR (decide (x.l.length + y.l.length ≤ sizeLine)) (.ok ⟨x.l ++ y.l⟩)
theorem e_catT {ma mb : Res (Tup T)} (ha : EG X W g ρ a ma) (hb : EG X W g ρ b mb) : EG X W g ρ (.BinOp a .Add b pos) (ma.bind fun x => mb.bind fun y => catT x y) := by
  obtain ⟨ta, pa, qa⟩ := ha.ex
  obtain ⟨tb, pb, qb⟩ := hb.ex
  refine ⟨_, pe_op op_catA pa pb, fun S own σ H Q rs h => two_run (R' := fun v u H2 => rCatA X.K v u H2 Q) qa qb rs h fun x y v u H2 s r1 r2 hp => ?_⟩
  obtain ⟨p1, vs, rfl, a1, a2⟩ := r1
  obtain ⟨p2, us, rfl, b1, b2⟩ := r2
  obtain ⟨h1, hy⟩ := hp.guard
  refine ⟨p1, p2, vs, us, rfl, rfl, SqT.same hide_sub a1, SqT.same hide_sub b1, by rw [a2.length, b2.length]; exact of_decide_eq_true h1, ?_, ?_, ?_⟩
  · intro z
    subst z
    refine hy H2 _ s ⟨p2, us, rfl, b1, ?_⟩
    have : x.l = [] := by have := a2.length; cases hx : x.l with | nil => rfl | cons _ _ => rw [hx] at this; simp at this
    rw [this]; exact b2
  · intro z z2
    subst z2
    refine hy H2 _ s ⟨p1, vs, rfl, a1, ?_⟩
    have : y.l = [] := by have := b2.length; cases hx : y.l with | nil => rfl | cons _ _ => rw [hx] at this; simp at this
    rw [this, List.append_nil]; exact a2
  · intro _ _ p np
    have s2 : Same H2 (upd H2 p (.tup (vs ++ us))) := same_upd np
    refine hy _ _ (s.trans s2) ⟨p, vs ++ us, rfl, .inl (.inl ?_), RpAll.mono (hide_same s2) (a2.append b2)⟩
    rw [hide_out fun z => (rs.mono s).dom p (reg_sub p z) np, upd_same]
theorem e_catTp {x y : Tup T} (ha : EG X W g ρ a (.ok x)) (hb : EG X W g ρ b (.ok y)) : EG X W g ρ (.BinOp a .Add b pos) (catT x y) := e_catT ha hb
instance [Rp T] : Len (Sq T) where
  len xs := .ok (xs.l.length : Int)
  ok {K B H v x Q} r h := by
    obtain ⟨t, l⟩ := x
    cases t with
    | true => exact Len.ok (T := Tup T) (x := Tup.mk l) r h
    | false => exact Len.ok (T := List T) (x := l) r h
theorem e_lensq {p : Pos} {x : Sq T} (ha : EG X W true ρ a (.ok x)) (hm : X.mg "len" = none) (hg : Gl X "len" := by rfl)
    (he : starEach [a] X.env = (false, eval a X.env) :: starEach [] X.env := by rfl) (hpl : (backTo pos (starEach [] X.env)).any (·.1) = false := by rfl) : EG X W g ρ (.Call (.Name "len" p) [a] [] pos) (.ok (x.l.length : Int)) := e_len ha hm hg he hpl
theorem i_zipsp (A B : Type) [Rp A] [Rp B] [Seqn A T] [Seqn B U] {x : A} {y : B} {p : Pos} {elts : List Expr} {kk : Nat} {tpos : Pos} (h : EG X W true ρ a (.ok x)) (h2 : EG X W true ρ c (.ok y)) (hm : X.mg "zip" = none) (hg : Gl X "zip" := by rfl)
    (he : starEach (a :: [c]) X.env = (false, eval a X.env) :: starEach [c] X.env := by rfl) (he2 : starEach (c :: []) X.env = (false, eval c X.env) :: starEach [] X.env := by rfl) (hpl : (backTo pos (starEach [c] X.env)).any (·.1) = false := by rfl) :
    IJ X W ρ (.Tuple elts kk tpos) (.Call (.Name "zip" p) [a, c] [] pos) (.ok ((Seqn.f x : List T).zip (Seqn.f y : List U))) := i_zips h h2 hm hg he he2 hpl
/-! ### index, in -/
class Flt (T : Type) [Rp T] [DecidableEq T] extends Scal T where
  fl : ∀ x : T, flatV (toV x) = true
  eq : ∀ x y : T, eqV (toV x) (toV y) = decide (x = y)
instance : Flt Int := { fl := fun _ => rfl, eq := fun x y => by simp [Scal.toV, eqV]; rfl }
instance : Flt Str := { fl := fun _ => rfl, eq := fun x y => by simp [Scal.toV, eqV]; rfl }
instance : Flt Bool := { fl := fun _ => rfl, eq := fun x y => by simp [Scal.toV, eqV]; rfl }
def indexM {α : Type} [DecidableEq α] (xs : List α) (x : α) : Res Int := match xs.findIdx? (fun y => decide (y = x)) with
  | some j => .ok ((j : Nat) : Int)
  | none => .bad
theorem flat_all [DecidableEq T] [Flt T] {K : PySem.W.Frag} {H : Hp} : ∀ {vs : List V} {xs : List T}, RpAll K H vs xs → vs = xs.map Scal.toV
  | _, _, .nil => rfl
  | _, _, .cons r t => by rw [List.map_cons, ← flat_all t, Scal.rel r]
theorem flat_map [DecidableEq T] [Flt T] (xs : List T) : (xs.map Scal.toV).all flatV = true := by
  rw [List.all_map]
  exact List.all_eq_true.mpr fun x _ => Flt.fl x
theorem in_map [DecidableEq T] [Flt T] (x : T) (xs : List T) : inV (Scal.toV x) (xs.map Scal.toV) = decide (x ∈ xs) := by
  unfold inV
  induction xs with
  | nil => simp
  | cons y r ih =>
    rw [List.map_cons, List.any_cons, ih, Flt.eq]
    by_cases h : y = x
    · subst h; simp
    · have h2 : ¬ x = y := fun z => h z.symm
      simp [h, h2]
theorem e_lindex [DecidableEq T] [Flt T] {ml : Res (List T)} {mx : Res T} {p2 : Pos} (hl : LG X W ρ a ml) (hx : EG X W true ρ e mx)
    (hbase : attributeBase a "index" X.env (eval a X.env) = eval a X.env := by rfl) (hline : (p2.endLine == pos.line) = true := by rfl) (hst : starEach (e :: []) X.env = (false, eval e X.env) :: starEach [] X.env := by rfl)
    (hpl : (backTo pos (starEach [] X.env)).any (·.1) = false := by rfl)
    (hfew : ((backTo pos (starEach (e :: []) X.env)).all (fun x => !x.1) && (backToKw pos (keywordEach [] X.env)).all (fun x => x.1.isSome) && decide ((e :: []).length + ([] : List Keyword).length + (if ([] : List Keyword).isEmpty then 0 else 1) < 30)) = true := by rfl) :
    EG X W g ρ (.Call (.Attribute a "index" p2) [e] [] pos) (ml.bind fun xs => mx.bind fun x => indexM xs x) := by
  obtain ⟨ta, pa, qa⟩ := hl.ex
  obtain ⟨tb, pb, qb⟩ := hx.ex
  refine ⟨_, pe_bm PySem.F.plainAttrs_list PySem.F.slot_list_index PySem.F.type_list_index mt_index pa (pa_cons pb pa_nil hst) hbase hfew hline hst hpl, fun S own σ H Q rs h => ?_⟩
  refine qa S own σ H _ rs (h.bind.imp (fun xs hxs H1 p vs s1 e1 e2 => ?_) fun _ z => z)
  refine ⟨.inl ⟨rfl, vs, .inl (.inl e1)⟩, ?_⟩
  refine qb S own σ H1 _ (rs.mono s1) (hxs.bind.imp (fun x hx H2 v s2 r => ?_) fun _ z => z.mono s1)
  have e3 := flat_all e2
  subst e3
  have r' := Scal.rel r
  subst r'
  unfold indexM at hx
  split at hx
  · rename_i j hj
    obtain ⟨h1, h2, h3⟩ := List.findIdx?_eq_some_iff_getElem.mp hj
    refine ⟨p, xs.map Scal.toV, Scal.toV x, j, Scal.toV xs[j], rfl, rfl, .inl (.inl (s2 _ _ e1)), Flt.fl x, flat_map xs, by rw [List.getElem?_map, List.getElem?_eq_getElem h1]; rfl, by rw [Flt.eq]; exact h2, fun m z' hm hz => ?_, hx H2 _ (s1.trans s2) rfl⟩
    rw [List.getElem?_map, List.getElem?_eq_getElem (by omega)] at hz
    cases hz
    rw [Flt.eq]
    exact Bool.eq_false_iff.mpr (h3 m hm)
  · exact hx.elim
theorem e_inl [DecidableEq T] [Flt T] {ma : Res T} {mb : Res (List T)} (ha : EG X W true ρ a ma) (hb : EG X W g ρ b mb) (hm : behindInMarks .In b = false := by rfl) : CJ X W ρ .In a b (ma.bind fun x => mb.bind fun y => .ok (decide (x ∈ y))) :=
  e_cmpR (f := fun x y => .ok (decide (x ∈ y))) op_in_seq hm ha hb (fun _ _ H x y v u Q r1 r2 h => by
    obtain ⟨p, vs, rfl, e1, e2⟩ := r2
    have e3 := flat_all e2
    subst e3
    have r' := Scal.rel r1
    subst r'
    refine ⟨p, _, rfl, .inl (.inl (.inl (hide_sub _ _ e1))), Flt.fl x, flat_map y, ?_⟩
    rw [in_map]
    exact h)
theorem e_ninl [DecidableEq T] [Flt T] {ma : Res T} {mb : Res (List T)} (ha : EG X W true ρ a ma) (hb : EG X W g ρ b mb) (hm : behindInMarks .NotIn b = false := by rfl) : CJ X W ρ .NotIn a b (ma.bind fun x => mb.bind fun y => .ok (!decide (x ∈ y))) :=
  e_cmpR (f := fun x y => .ok (!decide (x ∈ y))) op_notIn_seq hm ha hb (fun _ _ H x y v u Q r1 r2 h => by
    obtain ⟨p, vs, rfl, e1, e2⟩ := r2
    have e3 := flat_all e2
    subst e3
    have r' := Scal.rel r1
    subst r'
    refine ⟨p, _, rfl, .inl (.inl (.inl (hide_sub _ _ e1))), Flt.fl x, flat_map y, ?_⟩
    rw [in_map]
    exact h)
theorem e_intup [DecidableEq T] [Flt T] {ma : Res T} {mb : Res (Tup T)} (ha : EG X W true ρ a ma) (hb : EG X W g ρ b mb) (hm : behindInMarks .In b = false := by rfl) : CJ X W ρ .In a b (ma.bind fun x => mb.bind fun y => .ok (decide (x ∈ y.l))) :=
  e_cmpR (f := fun x y => .ok (decide (x ∈ y.l))) op_in_seq hm ha hb (fun _ _ H x y v u Q r1 r2 h => by
    obtain ⟨p, vs, rfl, e1, e2⟩ := r2
    have e3 := flat_all e2
    subst e3
    have r' := Scal.rel r1
    subst r'
    refine ⟨p, _, rfl, .inr (SqT.same hide_sub e1), Flt.fl x, flat_map y.l, ?_⟩
    rw [in_map]
    exact h)
theorem e_nintup [DecidableEq T] [Flt T] {ma : Res T} {mb : Res (Tup T)} (ha : EG X W true ρ a ma) (hb : EG X W g ρ b mb) (hm : behindInMarks .NotIn b = false := by rfl) : CJ X W ρ .NotIn a b (ma.bind fun x => mb.bind fun y => .ok (!decide (x ∈ y.l))) :=
  e_cmpR (f := fun x y => .ok (!decide (x ∈ y.l))) op_notIn_seq hm ha hb (fun _ _ H x y v u Q r1 r2 h => by
    obtain ⟨p, vs, rfl, e1, e2⟩ := r2
    have e3 := flat_all e2
    subst e3
    have r' := Scal.rel r1
    subst r'
    refine ⟨p, _, rfl, .inr (SqT.same hide_sub e1), Flt.fl x, flat_map y.l, ?_⟩
    rw [in_map]
    exact h)
end
end Py

set_option Elab.async false
set_option linter.all false
set_option maxRecDepth 100000
set_option maxHeartbeats 4000000
/-! Py, part W: defs that change their first parameters; len(set(..)), sorted. -/
namespace Py
open PySem PySem.Spec L2
open Rp (rp)
/-! ### kept lists taken out, put back -/
theorem Rs.take {K : PySem.W.Frag} {Hs H : Hp} {ρ : List Slot} {σ : St} {ads : List Addr} (r : Rs K Hs H ρ σ ads) : ∀ {i : Nat} {T : Type} {inst : Rp T} {ao : Option Addr} {xs : List T}, ρ[i]? = some (@Slot.own T inst ao xs) →
    ∃ a vs ads', σ[i]? = some (some (.ref a)) ∧ ads.Perm (a :: ads') ∧ H a = some (.lst vs) ∧ @RpAll T inst K Hs vs xs ∧ (∀ b, ao = some b → b = a) ∧ Rs K Hs H (ρ.set i .non) σ ads' := by
  induction r with
  | nil => intro i T inst ao xs e; cases e
  | non r ih =>
    intro i T inst ao xs e
    cases i with
    | zero => cases e
    | succ i =>
      obtain ⟨a, vs, ads', e1, e2, e3, e4, e5, q⟩ := ih (i := i) e
      exact ⟨a, vs, ads', e1, e2, e3, e4, e5, .non q⟩
  | val h r ih =>
    intro i T inst ao xs e
    cases i with
    | zero => cases e
    | succ i =>
      obtain ⟨a, vs, ads', e1, e2, e3, e4, e5, q⟩ := ih (i := i) e
      exact ⟨a, vs, ads', e1, e2, e3, e4, e5, .val h q⟩
  | own h0 h1 h2 r ih =>
    intro i T inst ao xs e
    cases i with
    | zero => cases e; exact ⟨_, _, _, rfl, List.Perm.refl _, h1, h2, h0, .non r⟩
    | succ i =>
      obtain ⟨a, vs, ads', e1, e2, e3, e4, e5, q⟩ := ih (i := i) e
      exact ⟨a, vs, _ :: ads', e1, (e2.cons _).trans (.swap _ _ _), e3, e4, e5, .own h0 h1 h2 q⟩
  | @ow ρ σ as bs o v h r ih =>
    intro i T inst ao xs e
    cases i with
    | zero => cases e
    | succ i =>
      obtain ⟨a, vs, ads', e1, e2, e3, e4, e5, q⟩ := ih (i := i) e
      exact ⟨a, vs, bs ++ ads', e1, (e2.append_left bs).trans List.perm_middle, e3, e4, e5, .ow h q⟩
theorem Rs.put {K : PySem.W.Frag} {Hs H : Hp} {T : Type} [Rp T] {a : Addr} {vs : List V} {xs : List T} {ao : Option Addr} (e : H a = some (.lst vs)) (h : RpAll K Hs vs xs) (h0 : ∀ b, ao = some b → b = a) {ρ : List Slot} {σ : St} {ads : List Addr} (r : Rs K Hs H ρ σ ads) :
    ∀ {i : Nat}, ρ[i]? = some .non → σ[i]? = some (some (.ref a)) → ∃ ads', Rs K Hs H (ρ.set i (.own T ao xs)) σ ads' ∧ ads'.Perm (a :: ads) := by
  induction r with
  | nil => intro i e1; cases e1
  | non r ih =>
    intro i e1 e2
    cases i with
    | zero => cases e2; exact ⟨_, .own h0 e h r, List.Perm.refl _⟩
    | succ i =>
      obtain ⟨ads', q, p⟩ := ih (i := i) e1 e2
      exact ⟨ads', .non q, p⟩
  | val hv r ih =>
    intro i e1 e2
    cases i with
    | zero => cases e1
    | succ i =>
      obtain ⟨ads', q, p⟩ := ih (i := i) e1 e2
      exact ⟨ads', .val hv q, p⟩
  | own k0 k1 k2 r ih =>
    intro i e1 e2
    cases i with
    | zero => cases e1
    | succ i =>
      obtain ⟨ads', q, p⟩ := ih (i := i) e1 e2
      exact ⟨_ :: ads', .own k0 k1 k2 q, (p.cons _).trans (.swap _ _ _)⟩
  | @ow ρ σ as bs o v h r ih =>
    intro i e1 e2
    cases i with
    | zero => cases e1
    | succ i =>
      obtain ⟨ads', q, p⟩ := ih (i := i) e1 e2
      exact ⟨bs ++ ads', .ow h q, (p.append_left bs).trans List.perm_middle⟩
theorem hide_congr {B B' : List Addr} {H : Hp} (h : ∀ c, c ∈ B ↔ c ∈ B') : hide B H = hide B' H := by
  funext c
  unfold hide
  by_cases hc : c ∈ B
  · rw [if_pos hc, if_pos ((h c).mp hc)]
  · rw [if_neg hc, if_neg fun z => hc ((h c).mpr z)]
theorem Post.qq {α : Type} {m : Res α} {Q : α → Prop} {E E' : Ex → Prop} (h : Post m.quiet Q E) : Post m.quiet Q E' := by
  cases m with
  | ok a => exact h
  | err e => exact h
  | bad => exact h
/-! ### the promise of such a def -/
def spM1 (K : PySem.W.Frag) {A T R : Type} [Rp T] [Rp R] (as : A → List AV) (f : List T × A → Res (R × List T)) : Sp := fun vs H Q E => ∃ (S : List Addr) (a : Addr) (ws vs' : List V) (xs : List T) (u : A), vs = .ref a :: vs' ∧ (∀ c ∈ S, H c ≠ none) ∧ a ∉ S ∧ H a = some (.lst ws) ∧
  RpAll K (hide (S ++ [a]) H) ws xs ∧ ArgsR K (hide (S ++ [a]) H) vs' (as u) ∧
  Post (f (xs, u)).quiet (fun y => ∀ H' v own' ws', Ext [a] H own' H' → (∀ c ∈ own', H' c ≠ none) → a ∈ own' → H' a = some (.lst ws') → RpAll K (hide (S ++ own') H') ws' y.2 → rp K (hide (S ++ own') H') v y.1 → Q v H') fun _ => False
def spM2 (K : PySem.W.Frag) {A T U R : Type} [Rp T] [Rp U] [Rp R] (as : A → List AV) (f : List T × List U × A → Res (R × List T × List U)) : Sp := fun vs H Q E => ∃ (S : List Addr) (a b : Addr) (ws zs vs' : List V) (xs : List T) (ys : List U) (u : A), vs = .ref a :: .ref b :: vs' ∧ (∀ c ∈ S, H c ≠ none) ∧ a ∉ S ∧ b ∉ S ∧ a ≠ b ∧ H a = some (.lst ws) ∧ H b = some (.lst zs) ∧
  RpAll K (hide (S ++ [a, b]) H) ws xs ∧ RpAll K (hide (S ++ [a, b]) H) zs ys ∧ ArgsR K (hide (S ++ [a, b]) H) vs' (as u) ∧
  Post (f (xs, ys, u)).quiet (fun y => ∀ H' v own' ws' zs', Ext [a, b] H own' H' → (∀ c ∈ own', H' c ≠ none) → a ∈ own' → b ∈ own' → H' a = some (.lst ws') → H' b = some (.lst zs') → RpAll K (hide (S ++ own') H') ws' y.2.1 → RpAll K (hide (S ++ own') H') zs' y.2.2 → rp K (hide (S ++ own') H') v y.1 → Q v H') fun _ => False
abbrev MGp (X : Cx) (W : WX) (ρ : List Slot) (t : TE) {R M : Type} [Rp R] (n : M → List Slot) (m : Res (R × M)) : Prop :=
  ∀ (S own : List Addr) (σ : St) (H : Hp) (Q : VK), RS X.K S ρ σ H own → Post m (fun y => ∀ H' v own', Ext own H own' H' → RS X.K S (n y.2) σ H' own' → rp X.K (hide (S ++ own') H') v y.1 → Q v H') (ErrX X W S own σ H) → t σ H Q
/-- an expression that changes kept lists -/
structure MG (X : Cx) (W : WX) (ρ : List Slot) (e : Expr) {R M : Type} [Rp R] (n : M → List Slot) (m : Res (R × M)) : Prop where
  ex : ∃ t, PE X e t ∧ MGp X W ρ t n m
def retM (R : Type) [Rp R] {M : Type} (sl : M → List Slot) : Rt (R × M) := ⟨fun r => sl r.2, fun K S own H v r => rp K (hide (S ++ own) H) v r.1⟩
section
variable {A R T U M : Type} [Rp R] [Rp T] [Rp U] {X : Cx} {W : WX} {ρe : Option (List Slot)} {ρ : List Slot} {e tg : Expr} {pos : Pos} {lv : Nat} {as : A → List AV} {rest : List Stmt}
theorem m_call1 (i : Nat) {x n1 : Str} {p p1 : Pos} {es : List Expr} {ao : Option Addr} {xs : List T} {f : List T × A → Res (R × List T)} {m : Res (R × List T)} {k : Nat} {n : List T → List Slot} (C : CtxOk X W lv) (F : FOk X.prog X.w X.K X.mg X.base x k (spM1 X.K as f))
    (ha : AJ X W true ρ es as (fun u => (f (xs, u)).quiet) m) (hi : ρ[i]? = some (Slot.own T ao xs) := by rfl) (hn : ∀ y, n y = ρ.set i (.own T ao y) := by intro _; rfl) (hk : k ≤ lv := by decide)
    (hN1 : X.N[i]? = some n1 := by rfl) (hv1 : Vis X.env.scope n1 := by first | exact Or.inl rfl | exact Or.inr (Or.inl rfl) | exact Or.inr (Or.inr rfl)) (hd1 : (n1 == ("__debug__" : Str)) = false := by decide) (hcd1 : (n1 == ("__classdict__" : Str)) = false := by decide)
    (hg : Gl X x := by rfl) (hdb : (x == ("__debug__" : Str)) = false := by decide) (he : starEach (.Name n1 p1 :: es) X.env = (false, eval (.Name n1 p1) X.env) :: starEach es X.env := by rfl) (hpl : (backTo pos (starEach es X.env)).any (·.1) = false := by rfl) :
    MG X W ρ (.Call (.Name x p) (.Name n1 p1 :: es) [] pos) n m := by
  obtain ⟨t, pa, qa⟩ := ha.ex
  obtain ⟨fd, ps, F1, F2⟩ := F.ok
  refine ⟨_, pe_callS F1 (C.room.mono hk) hg F.gl F.kp F2 (fun σ => L2N.passAt C.tk σ) (pa_cons (pe_var hN1 hv1 hd1 hcd1) pa he) hdb he hpl, fun S own σ H Q rs h => ?_⟩
  obtain ⟨ads, r, nd, sub⟩ := rs.rs
  obtain ⟨a, ws, ads1, ea, pa1, ha1, hr1, h01, r1⟩ := r.take hi
  have ao_ : a ∈ own := sub a (pa1.symm.subset List.mem_cons_self)
  refine ⟨.ref a, ea, qa S own σ H _ _ _ rs (fun e z => z) h fun u vs' H1 s1 ra hu => ?_⟩
  have hset : ∀ G : Hp, hide ((S ++ own.filter fun c => decide (c ≠ a)) ++ [a]) G = hide (S ++ own) G := fun G => hide_congr fun c => by
    simp only [List.mem_append, List.mem_filter, List.mem_singleton, decide_eq_true_eq]
    constructor
    · rintro ((z | z) | z)
      · exact .inl z
      · exact .inr z.1
      · exact .inr (z ▸ ao_)
    · rintro (z | z)
      · exact .inl (.inl z)
      · by_cases q : c = a
        · exact .inr q
        · exact .inl (.inr ⟨z, q⟩)
  refine ⟨S ++ own.filter fun c => decide (c ≠ a), a, ws, vs', xs, u, rfl, fun c hc => ?_, fun hc => ?_, s1 _ _ ha1, ?_, ?_, (Post.qq hu).imp (fun y hy H' v own' ws' x' dm ma e1 q1 rv => ?_) fun _ z => z⟩
  · rcases List.mem_append.mp hc with z | z
    · exact (rs.mono s1).dom c (List.mem_append_left _ z)
    · exact (rs.mono s1).dom c (List.mem_append_right _ (List.mem_filter.mp z).1)
  · rcases List.mem_append.mp hc with z | z
    · exact rs.out a ao_ z
    · exact of_decide_eq_true (List.mem_filter.mp z).2 rfl
  · rw [hset]; exact RpAll.mono (hide_same s1) hr1
  · rw [hset]; exact ra
  · have xe : Ext own H (own.filter (fun c => decide (c ≠ a)) ++ own') H' := by
      refine ⟨fun b o z hb => x'.same b o (s1 b o z) fun q => hb (List.mem_singleton.mp q ▸ ao_), fun b z => x'.dom b (dom_same s1 z), fun b hb => ?_⟩
      rcases List.mem_append.mp hb with z | z
      · exact .inl (List.mem_filter.mp z).1
      · rcases x'.own b z with q | q
        · exact .inl (List.mem_singleton.mp q ▸ ao_)
        · exact .inr (s1.free q)
    have sg : Same (hide (S ++ own) H) (hide (S ++ (own.filter (fun c => decide (c ≠ a)) ++ own')) H') := xe.sight fun _ _ _ => trivial
    rw [List.append_assoc] at q1 rv
    have nd1 : (a :: ads1).Nodup := pa1.nodup_iff.mp nd
    have r2 := r1.mono sg fun c hc o z => x'.same c o (s1 c o z) fun q => (List.nodup_cons.mp nd1).1 (List.mem_singleton.mp q ▸ hc)
    obtain ⟨ads2, r3, p3⟩ := Rs.put e1 q1 h01 r2 (i := i) (List.getElem?_set_self (List.getElem?_eq_some_iff.mp hi).1) ea
    refine hy H' v _ xe ⟨⟨ads2, ?_, p3.nodup_iff.mpr nd1, fun c hc => ?_⟩, fun c hc => ?_, fun c hc => ?_⟩ rv
    · rw [hn, ← List.set_set (a := Slot.non)]; exact r3
    · rcases List.mem_cons.mp (p3.subset hc) with z | z
      · exact List.mem_append_right _ (z ▸ ma)
      · exact List.mem_append_left _ (List.mem_filter.mpr ⟨sub c (pa1.symm.subset (List.mem_cons_of_mem _ z)), decide_eq_true fun q => (List.nodup_cons.mp nd1).1 (q ▸ z)⟩)
    · rcases xe.own c hc with z | z
      · exact rs.out c z
      · exact fun q => rs.dom c (List.mem_append_left _ q) z
    · rcases List.mem_append.mp hc with z | z
      · exact xe.dom c (rs.dom c (List.mem_append_left _ z))
      · rcases List.mem_append.mp z with z | z
        · exact xe.dom c (rs.dom c (List.mem_append_right _ (List.mem_filter.mp z).1))
        · exact dm c z
theorem m_call2 (i j : Nat) {x n1 n2 : Str} {p p1 p2 : Pos} {es : List Expr} {ao bo : Option Addr} {xs : List T} {ys : List U} {f : List T × List U × A → Res (R × List T × List U)} {m : Res (R × List T × List U)} {k : Nat} {n : List T × List U → List Slot} (C : CtxOk X W lv) (F : FOk X.prog X.w X.K X.mg X.base x k (spM2 X.K as f))
    (ha : AJ X W true ρ es as (fun u => (f (xs, ys, u)).quiet) m) (hi : ρ[i]? = some (Slot.own T ao xs) := by rfl) (hj : ρ[j]? = some (Slot.own U bo ys) := by rfl) (hij : i ≠ j := by decide) (hn : ∀ y, n y = (ρ.set i (.own T ao y.1)).set j (.own U bo y.2) := by intro _; rfl) (hk : k ≤ lv := by decide)
    (hN1 : X.N[i]? = some n1 := by rfl) (hv1 : Vis X.env.scope n1 := by first | exact Or.inl rfl | exact Or.inr (Or.inl rfl) | exact Or.inr (Or.inr rfl)) (hd1 : (n1 == ("__debug__" : Str)) = false := by decide) (hcd1 : (n1 == ("__classdict__" : Str)) = false := by decide)
    (hN2 : X.N[j]? = some n2 := by rfl) (hv2 : Vis X.env.scope n2 := by first | exact Or.inl rfl | exact Or.inr (Or.inl rfl) | exact Or.inr (Or.inr rfl)) (hd2 : (n2 == ("__debug__" : Str)) = false := by decide) (hcd2 : (n2 == ("__classdict__" : Str)) = false := by decide)
    (hg : Gl X x := by rfl) (hdb : (x == ("__debug__" : Str)) = false := by decide) (he : starEach (.Name n1 p1 :: .Name n2 p2 :: es) X.env = (false, eval (.Name n1 p1) X.env) :: starEach (.Name n2 p2 :: es) X.env := by rfl) (he2 : starEach (.Name n2 p2 :: es) X.env = (false, eval (.Name n2 p2) X.env) :: starEach es X.env := by rfl) (hpl : (backTo pos (starEach (.Name n2 p2 :: es) X.env)).any (·.1) = false := by rfl) :
    MG X W ρ (.Call (.Name x p) (.Name n1 p1 :: .Name n2 p2 :: es) [] pos) n m := by
  obtain ⟨t, pa, qa⟩ := ha.ex
  obtain ⟨fd, ps, F1, F2⟩ := F.ok
  refine ⟨_, pe_callS F1 (C.room.mono hk) hg F.gl F.kp F2 (fun σ => L2N.passAt C.tk σ) (pa_cons (pe_var hN1 hv1 hd1 hcd1) (pa_cons (pe_var hN2 hv2 hd2 hcd2) pa he2) he) hdb he hpl, fun S own σ H Q rs h => ?_⟩
  obtain ⟨ads, r, nd, sub⟩ := rs.rs
  obtain ⟨a, ws, ads1, ea, pa1, ha1, hr1, h01, r1⟩ := r.take hi
  have hj' : (ρ.set i .non)[j]? = some (Slot.own U bo ys) := by rw [List.getElem?_set_ne hij]; exact hj
  obtain ⟨b, zs, ads2, eb, pb1, hb1, hr2, h02, r2⟩ := r1.take hj'
  have pall : ads.Perm (a :: b :: ads2) := pa1.trans (pb1.cons a)
  have nd1 : (a :: b :: ads2).Nodup := pall.nodup_iff.mp nd
  have nab : a ≠ b := fun z => (List.nodup_cons.mp nd1).1 (z ▸ List.mem_cons_self)
  have na2 : ∀ c ∈ ads2, c ≠ a := fun c hc z => (List.nodup_cons.mp nd1).1 (z ▸ List.mem_cons_of_mem _ hc)
  have nb2 : ∀ c ∈ ads2, c ≠ b := fun c hc z => (List.nodup_cons.mp (List.nodup_cons.mp nd1).2).1 (z ▸ hc)
  have ao_ : a ∈ own := sub a (pall.symm.subset List.mem_cons_self)
  have bo_ : b ∈ own := sub b (pall.symm.subset (List.mem_cons_of_mem _ List.mem_cons_self))
  refine ⟨.ref a, ea, .ref b, eb, qa S own σ H _ _ _ rs (fun e z => z) h fun u vs' H1 s1 ra hu => ?_⟩
  have hset : ∀ G : Hp, hide ((S ++ own.filter fun c => decide (c ≠ a ∧ c ≠ b)) ++ [a, b]) G = hide (S ++ own) G := fun G => hide_congr fun c => by
    simp only [List.mem_append, List.mem_filter, List.mem_cons, List.not_mem_nil, or_false, decide_eq_true_eq]
    constructor
    · rintro ((z | z) | z | z)
      · exact .inl z
      · exact .inr z.1
      · exact .inr (z ▸ ao_)
      · exact .inr (z ▸ bo_)
    · rintro (z | z)
      · exact .inl (.inl z)
      · by_cases q : c = a
        · exact .inr (.inl q)
        · by_cases q2 : c = b
          · exact .inr (.inr q2)
          · exact .inl (.inr ⟨z, q, q2⟩)
  have hout : ∀ c, c ∈ (own.filter fun c => decide (c ≠ a ∧ c ≠ b)) → c ∈ own ∧ c ≠ a ∧ c ≠ b := fun c hc => ⟨(List.mem_filter.mp hc).1, of_decide_eq_true (List.mem_filter.mp hc).2⟩
  refine ⟨S ++ own.filter fun c => decide (c ≠ a ∧ c ≠ b), a, b, ws, zs, vs', xs, ys, u, rfl, fun c hc => ?_, fun hc => ?_, fun hc => ?_, nab, s1 _ _ ha1, s1 _ _ hb1, ?_, ?_, ?_, (Post.qq hu).imp (fun y hy H' v own' ws' zs' x' dm ma mb e1 e2 q1 q2 rv => ?_) fun _ z => z⟩
  · rcases List.mem_append.mp hc with z | z
    · exact (rs.mono s1).dom c (List.mem_append_left _ z)
    · exact (rs.mono s1).dom c (List.mem_append_right _ (hout c z).1)
  · rcases List.mem_append.mp hc with z | z
    · exact rs.out a ao_ z
    · exact (hout a z).2.1 rfl
  · rcases List.mem_append.mp hc with z | z
    · exact rs.out b bo_ z
    · exact (hout b z).2.2 rfl
  · rw [hset]; exact RpAll.mono (hide_same s1) hr1
  · rw [hset]; exact RpAll.mono (hide_same s1) hr2
  · rw [hset]; exact ra
  · have hab : ∀ c, c ∈ [a, b] → c = a ∨ c = b := fun c hc => by
      rcases List.mem_cons.mp hc with z | z
      · exact .inl z
      · exact .inr (List.mem_singleton.mp z)
    have xe : Ext own H (own.filter (fun c => decide (c ≠ a ∧ c ≠ b)) ++ own') H' := by
      refine ⟨fun c o z hc => x'.same c o (s1 c o z) fun q => (hab c q).elim (fun q => hc (q ▸ ao_)) fun q => hc (q ▸ bo_), fun c z => x'.dom c (dom_same s1 z), fun c hc => ?_⟩
      rcases List.mem_append.mp hc with z | z
      · exact .inl (hout c z).1
      · rcases x'.own c z with q | q
        · exact .inl ((hab c q).elim (fun q => q ▸ ao_) fun q => q ▸ bo_)
        · exact .inr (s1.free q)
    have sg : Same (hide (S ++ own) H) (hide (S ++ (own.filter (fun c => decide (c ≠ a ∧ c ≠ b)) ++ own')) H') := xe.sight fun _ _ _ => trivial
    rw [List.append_assoc] at q1 q2 rv
    have r3 := r2.mono sg fun c hc o z => x'.same c o (s1 c o z) fun q => (hab c q).elim (na2 c hc) (nb2 c hc)
    have li : i < ρ.length := (List.getElem?_eq_some_iff.mp hi).1
    have lj : j < ρ.length := (List.getElem?_eq_some_iff.mp hj).1
    obtain ⟨ads3, r4, p4⟩ := Rs.put e2 q2 h02 r3 (i := j) (List.getElem?_set_self (by rw [List.length_set]; exact lj)) eb
    obtain ⟨ads4, r5, p5⟩ := Rs.put e1 q1 h01 r4 (i := i) (by rw [List.getElem?_set_ne (Ne.symm hij), List.getElem?_set_ne (Ne.symm hij)]; exact List.getElem?_set_self li) ea
    have p6 : ads4.Perm (a :: b :: ads2) := p5.trans (p4.cons a)
    refine hy H' v _ xe ⟨⟨ads4, ?_, p6.nodup_iff.mpr nd1, fun c hc => ?_⟩, fun c hc => ?_, fun c hc => ?_⟩ rv
    · have e : n y.2 = ((((ρ.set i .non).set j .non).set j (.own U bo y.2.2)).set i (.own T ao y.2.1)) := by
        rw [hn, List.set_set, List.set_comm _ _ (Ne.symm hij), List.set_set]
      rw [e]; exact r5
    · rcases List.mem_cons.mp (p6.subset hc) with z | z
      · exact List.mem_append_right _ (z ▸ ma)
      · rcases List.mem_cons.mp z with z | z
        · exact List.mem_append_right _ (z ▸ mb)
        · exact List.mem_append_left _ (List.mem_filter.mpr ⟨sub c (pall.symm.subset (List.mem_cons_of_mem _ (List.mem_cons_of_mem _ z))), decide_eq_true ⟨na2 c z, nb2 c z⟩⟩)
    · rcases xe.own c hc with z | z
      · exact rs.out c z
      · exact fun q => rs.dom c (List.mem_append_left _ q) z
    · rcases List.mem_append.mp hc with z | z
      · exact xe.dom c (rs.dom c (List.mem_append_left _ z))
      · rcases List.mem_append.mp z with z | z
        · exact xe.dom c (rs.dom c (List.mem_append_right _ (hout c z).1))
        · exact dm c z
theorem n_setM (i : Nat) {x : Str} {m : Res (R × M)} {n : M → List Slot} {p2 : Pos} {n3 : R × M → List Slot} (nd : X.N.Nodup) (h : MG X W ρ e n m) (hn : ∀ v, n3 v = (n v.2).set i (.val R v.1) := by intro _; rfl) (w : WkO ρ ρe := by first | exact True.intro | (repeat (first | exact Wk.nil | refine Wk.s ?_ | refine Wk.n ?_))) (hi : X.N[i]? = some x := by rfl) (hx : Loc X.env.scope x := by first | exact Or.inl rfl | exact Or.inr rfl)
    (hs : swapsWith e (some (.Name x p2)) pos.line X.env = pure false := by rfl) (hf : X.fn x = true ∨ X.env.scope.names.lookup x = some .local := by first | exact .inl rfl | exact .inr rfl | assumption) : N1 X W ρe ρ (.Assign [.Name x p2] e pos) n3 m := by
  obtain ⟨t, p, q⟩ := h.ex
  refine ⟨_, ps_set nd hi hx p hs hf, fun S own σ H D rs h => q S own σ H _ rs (h.imp (fun y hy H' v own' x' rs' rv => hy _ H' own' x' ?_) fun _ z => z.toX rs w)⟩
  rw [hn]
  exact rs'.set rv i
theorem n_exprM {m : Res (R × M)} {n : M → List Slot} {n3 : R × M → List Slot} (h : MG X W ρ e n m) (hn : ∀ v, n3 v = n v.2 := by intro _; rfl) (w : WkO ρ ρe := by first | exact True.intro | (repeat (first | exact Wk.nil | refine Wk.s ?_ | refine Wk.n ?_))) (hs : swapsWith e none pos.line X.env = pure false := by rfl) : N1 X W ρe ρ (.Expr e pos) n3 m := by
  obtain ⟨t, p, q⟩ := h.ex
  refine ⟨_, ps_expr p hs, fun S own σ H D rs h => q S own σ H _ rs (h.imp (fun y hy H' v own' x' rs' rv => hy _ H' own' x' ?_) fun _ z => z.toX rs w)⟩
  rw [hn]
  exact rs'
theorem n_unpM {m : Res (R × M)} {n : M → List Slot} {u : List Slot → R → List Slot} {js : List Nat} {n3 : R × M → List Slot} (h : MG X W ρ e n m) (hg : GJ X tg u js) (hn : ∀ v, n3 v = u (n v.2) v.1 := by intro _; rfl) (w : WkO ρ ρe := by first | exact True.intro | (repeat (first | exact Wk.nil | refine Wk.s ?_ | refine Wk.n ?_)))
    (hs : swapsWithSole [tg] e pos.line X.env = pure false := by rfl) (hw : swappedStores [tg] e X.env = pure none := by rfl) (h1 : (assignEach [tg] X.env).map (·.2) = [assign tg X.env] := by rfl) : N1 X W ρe ρ (.Assign [tg] e pos) n3 m := by
  obtain ⟨t, p, q⟩ := h.ex
  obtain ⟨gt, pg, qg⟩ := hg.ex
  refine ⟨_, ps_asg p pg hs hw h1, fun S own σ H D rs h => ?_⟩
  refine q S own σ H _ rs (h.imp (fun y hy H' v own' x' rs' rv => qg S own' (n y.2) σ H' v _ _ rs' rv fun σ' rs2 _ => hy σ' H' own' x' ?_) fun _ z => z.toX rs w)
  rw [hn]
  exact rs2
theorem r_retM {m : Res R} {sl : M → List Slot} (c : M) (h : EG X W true ρ e m) (w2 : Wk ρ (sl c)) (w : WkO ρ ρe := by first | exact True.intro | (repeat (first | exact Wk.nil | refine Wk.s ?_ | refine Wk.n ?_))) : SR X W ρe ρ (.Return (some e) pos :: rest) (retM R sl) (m.bind fun x => .ok (x, c)) := by
  obtain ⟨t, p, q⟩ := h.ex
  refine ⟨_, pss_cons (ps_ret p) pss_never, fun S own σ H D rs h => ?_⟩
  exact q S own σ H D.rt rs (h.bind.imp (fun x hx H' v s r => hx v σ H' own (Ext.of_same s) ((rs.mono s).wk w2) r) fun _ z => z.toX rs w)
theorem r_bad {B' : Type} {Z : Rt B'} : SR X W ρe ρ [] Z (.bad : Res B') := ⟨_, pss_nil, fun S own σ H D rs h => h.elim⟩
theorem r_retMp {v : R} {sl : M → List Slot} (c : M) (h : EG X W true ρ e (.ok v)) (w2 : Wk ρ (sl c)) (w : WkO ρ ρe := by first | exact True.intro | (repeat (first | exact Wk.nil | refine Wk.s ?_ | refine Wk.n ?_))) : SR X W ρe ρ (.Return (some e) pos :: rest) (retM R sl) (.ok (v, c)) := r_retM c h w2 w
end
section
variable {P : Program} {w : World} {K : PySem.W.Frag} {mg : Str → Option Value} {base : Heap} {x qual : Str} {params : Arguments} {body : List Stmt} {scope : Scope} {kws : List (Str × V)} {fd : FuncData} {N ps : List Str} {k : Nat} {A : Type} {as : A → List AV} {R T U : Type} [Rp R] [Rp T] [Rp U]
theorem fok_m1 {f : List T × A → Res (R × List T)} {ρ0 : Addr → List T × A → List Slot} {sl : Addr → List T → List Slot} (F : FunD K x qual params body scope [] kws (He.ga K x) fd) (hgl : mg x = some (.ref (He.ga K x))) (S : FnScope N ps scope) (hb : Binds K fd ps [])
    (hl : ∀ u, (as u).length + 1 = ps.length := by intro _; rfl)
    (h0 : ∀ a u, ρ0 a u = .own T (some a) u.1 :: ((as u.2).map AV.slot ++ List.replicate (N.length - ps.length) .non) := by intro _ _; rfl)
    (hsl : ∀ a y, ∃ r, sl a y = .own T (some a) y :: r := by intro _ _; exact ⟨_, rfl⟩)
    (d : ∀ cdv A outer s H E, CtxOk (fcx P w K mg base N qual scope (He.ga K x) cdv A outer s H E) (fun c d _ H' => E c d H') k → ∀ a u, SR (fcx P w K mg base N qual scope (He.ga K x) cdv A outer s H E) (fun c d _ H' => E c d H') none (ρ0 a u) body (retM R (sl a)) (f u)) :
    FOk P w K mg base x (k + 1) (spM1 K as f) := by
  refine ⟨⟨fd, ps, FunD.ok F S (fun vs H Q E h => ?_) (fun cdv A outer s H vs Q E hr h => ?_), hb⟩, F.kp, hgl⟩
  · obtain ⟨S', a, ws, vs', xs, u, rfl, _, _, _, _, rv, _⟩ := h
    rw [List.length_cons, rv.length, hl]
  · obtain ⟨S', a, ws, vs', xs, u, rfl, hd, na, ea, ra, rv, hp⟩ := h
    obtain ⟨t, p, q⟩ := (d cdv A outer s H E (fctx S hr) a (xs, u)).ex
    refine ⟨t, p, q S' [a] _ H _ ?_ ((hp.quiet (E' := fun _ => False)).imp (fun y hy v σ' H' own' x' rs' z => ?_) fun e he => he.elim)⟩
    · rw [h0]
      refine ⟨⟨[a], Rs.own (fun _ e => by cases e; rfl) ea ra ?_, List.nodup_cons.mpr ⟨List.not_mem_nil, List.nodup_nil⟩, fun c hc => hc⟩, fun c hc => List.mem_singleton.mp hc ▸ na, fun c hc => ?_⟩
      · have e : (V.ref a :: vs').length = ps.length := by rw [List.length_cons, rv.length, hl]
        rw [e]
        exact rs_args rv _
      · rcases List.mem_append.mp hc with z | z
        · exact hd c z
        · rw [List.mem_singleton.mp z, ea]; intro w; cases w
    · obtain ⟨ads, r, nd, sub⟩ := rs'.rs
      obtain ⟨r0, er⟩ := hsl a y.2
      have r' : Rs K (hide (S' ++ own') H') H' (sl a y.2) σ' ads := r
      rw [er] at r'
      cases r' with
      | own h0 e1 e2 r2 =>
        have := h0 a rfl
        subst this
        exact hy H' v own' _ x' (fun c hc => rs'.dom c (List.mem_append_right _ hc)) (sub _ List.mem_cons_self) e1 e2 z
theorem fok_m2 {f : List T × List U × A → Res (R × List T × List U)} {ρ0 : Addr → Addr → List T × List U × A → List Slot} {sl : Addr → Addr → List T × List U → List Slot} (F : FunD K x qual params body scope [] kws (He.ga K x) fd) (hgl : mg x = some (.ref (He.ga K x))) (S : FnScope N ps scope) (hb : Binds K fd ps [])
    (hl : ∀ u, (as u).length + 2 = ps.length := by intro _; rfl)
    (h0 : ∀ a b u, ρ0 a b u = .own T (some a) u.1 :: .own U (some b) u.2.1 :: ((as u.2.2).map AV.slot ++ List.replicate (N.length - ps.length) .non) := by intro _ _ _; rfl)
    (hsl : ∀ a b y, ∃ r, sl a b y = .own T (some a) y.1 :: .own U (some b) y.2 :: r := by intro _ _ _; exact ⟨_, rfl⟩)
    (d : ∀ cdv A outer s H E, CtxOk (fcx P w K mg base N qual scope (He.ga K x) cdv A outer s H E) (fun c d _ H' => E c d H') k → ∀ a b u, SR (fcx P w K mg base N qual scope (He.ga K x) cdv A outer s H E) (fun c d _ H' => E c d H') none (ρ0 a b u) body (retM R (sl a b)) (f u)) :
    FOk P w K mg base x (k + 1) (spM2 K as f) := by
  refine ⟨⟨fd, ps, FunD.ok F S (fun vs H Q E h => ?_) (fun cdv A outer s H vs Q E hr h => ?_), hb⟩, F.kp, hgl⟩
  · obtain ⟨S', a, b, ws, zs, vs', xs, ys, u, rfl, _, _, _, _, _, _, _, _, rv, _⟩ := h
    rw [List.length_cons, List.length_cons, rv.length, ← hl u]
  · obtain ⟨S', a, b, ws, zs, vs', xs, ys, u, rfl, hd, na, nb, nab, ea, eb, ra, rb, rv, hp⟩ := h
    obtain ⟨t, p, q⟩ := (d cdv A outer s H E (fctx S hr) a b (xs, ys, u)).ex
    refine ⟨t, p, q S' [a, b] _ H _ ?_ ((hp.quiet (E' := fun _ => False)).imp (fun y hy v σ' H' own' x' rs' z => ?_) fun e he => he.elim)⟩
    · rw [h0]
      refine ⟨⟨[a, b], Rs.own (fun _ e => by cases e; rfl) ea ra (Rs.own (fun _ e => by cases e; rfl) eb rb ?_), List.nodup_cons.mpr ⟨fun z => nab (List.mem_singleton.mp z), List.nodup_cons.mpr ⟨List.not_mem_nil, List.nodup_nil⟩⟩, fun c hc => hc⟩, fun c hc => ?_, fun c hc => ?_⟩
      · have e : (V.ref a :: V.ref b :: vs').length = ps.length := by rw [List.length_cons, List.length_cons, rv.length, ← hl u]
        rw [e]
        exact rs_args rv _
      · rcases List.mem_cons.mp hc with z | z
        · exact z ▸ na
        · exact List.mem_singleton.mp z ▸ nb
      · rcases List.mem_append.mp hc with z | z
        · exact hd c z
        · rcases List.mem_cons.mp z with z | z
          · rw [z, ea]; intro w; cases w
          · rw [List.mem_singleton.mp z, eb]; intro w; cases w
    · obtain ⟨ads, r, nd, sub⟩ := rs'.rs
      obtain ⟨r0, er⟩ := hsl a b y.2
      have r' : Rs K (hide (S' ++ own') H') H' (sl a b y.2) σ' ads := r
      rw [er] at r'
      cases r' with
      | own h0 e1 e2 r2 =>
        cases r2 with
        | own k0 k1 k2 r3 =>
          have := h0 a rfl
          subst this
          have := k0 b rfl
          subst this
          exact hy H' v own' _ _ x' (fun c hc => rs'.dom c (List.mem_append_right _ hc)) (sub _ List.mem_cons_self) (sub _ (List.mem_cons_of_mem _ List.mem_cons_self)) e1 k1 e2 k2 z
end
end Py

set_option Elab.async false
set_option linter.all false
set_option maxRecDepth 100000
set_option maxHeartbeats 4000000
/-! Py, part T: len(set(..)), sorted, list(range(..)). -/
namespace Py
open PySem PySem.Spec L2
open Rp (rp)
/-! ### len(set(xs)) -/
def nubI (xs : List Int) : List Int := xs.foldl PyProof.Rows.step_dedup []
theorem firstMet_nub (ns : List Int) : PyProof.Rows.firstMet (fun i => ns.getD i 0) ns.length = nubI ns := by
  unfold PyProof.Rows.firstMet nubI
  congr 1
  apply List.ext_getElem
  · simp
  · intro i h1 h2
    rw [List.getElem_map, List.getElem_range, List.getD_eq_getElem?_getD, List.getElem?_eq_getElem h2]
    rfl
def tLenSetG (K : PySem.W.Frag) (ta : TE) : TE := fun σ H Q => ta σ H fun x H1 => ∃ (l : Addr) (ns : List Int), x = .ref l ∧ SqL K H1 l (ns.map V.int) ∧ ns.length ≤ 4000 ∧ Q (.int ((nubI ns).length : Nat)) H1
theorem pe_lenSetG {X : Cx} {a : Expr} {ta : TE} {p p2 q pos : Pos} (hg : Gl X "len") (hm : X.mg "len" = none) (hg2 : Gl X "set") (hm2 : X.mg "set" = none) (ha : PE X a ta) (hc : X.calm = true)
    (na : starEach [a] X.env = (false, eval a X.env) :: starEach [] X.env := by rfl) : PE X (.Call (.Name "len" p) [.Call (.Name "set" p2) [a] [] q] [] pos) (tLenSetG X.K ta) := by
  refine ⟨fun pins s σ H Q I h => ?_⟩
  refine PyProof.Rows.Call_ (ld_blt I hg hm PySem.boot_len ?_)
  refine PyProof.Rows.callWith_builtin1 (PyProof.Rows.args_cons ?_ rfl) rfl rfl
  refine PyProof.Rows.Call_ (ld_blt I hg2 hm2 PyProof.Rows.boot_set ?_)
  refine PyProof.Rows.callWith_type1 (PyProof.Rows.args_cons (thn (ha.run pins s σ H _ I h) fun v s1 ⟨x, H1, I1, r1, q1⟩ => PyProof.Rows.args_nil ?_) na) na rfl
  obtain ⟨l, ns, rfl, hq, hl, q1⟩ := q1
  cases r1
  obtain ⟨its, r, pl, hz⟩ := I1.list hq
  have hlen : its.toArray.size = ns.length := by rw [List.size_toArray, ← r.length, List.length_map]
  refine call_set_list (I1.ok.hd hc) pl.isList (ns := ns) (by simpa using r.ints) (by rw [hlen]; unfold scanBound; omega) fun h' tk hS hk => ?_
  refine PyProof.Rows.args_nil ?_
  have hle := PyProof.Rows.firstMet_length_le (fun i => ns.getD i 0) ns.length
  rw [hlen, firstMet_nub] at hS
  rw [firstMet_nub] at hle
  obtain ⟨o, es, ep, t, ho, hex, hd, _, _, _, hf, hn⟩ := hS
  have I2 : Inv X pins σ H1 { s1 with heap := h', toks := tk } := I1.kept fun b o e => hk b o (Heap.lt_size e) e
  exact call_len_set ho hex hd hf (by rw [hn] <;> omega) ⟨.int ((nubI ns).length : Nat), H1, I2.tok _, ⟨_, by rw [hn]⟩, q1⟩
instance {A B C : Type} [Rp A] [Rp B] [Rp C] [Dat A] [Dat B] [Dat C] : Dat (T3 A B C) where
  toD p := .tuple [Dat.toD p.a, Dat.toD p.b, Dat.toD p.c]
  ok p := Dat.ok p.a && (Dat.ok p.b && Dat.ok p.c)
  dp {K H v x} h := by
    obtain ⟨a, vs, rfl, e1, e2⟩ := h
    cases e2 with
    | cons r1 e2 =>
      cases e2 with
      | cons r2 e2 =>
        cases e2 with
        | cons r3 e2 =>
          cases e2
          exact .tup e1 (.cons (Dat.dp r1) (.cons (Dat.dp r2) (.cons (Dat.dp r3) .nil)))
  lay p h := by
    rw [Bool.and_eq_true, Bool.and_eq_true] at h
    simp only [PyData.canLay0, PyData.canLayAll0, Dat.lay p.a h.1, Dat.lay p.b h.2.1, Dat.lay p.c h.2.2, Bool.and_self]
  dep := max (Dat.dep A) (max (Dat.dep B) (Dat.dep C)) + 1
  depth p := by
    have h1 := Dat.depth p.a
    have h2 := Dat.depth p.b
    have h3 := Dat.depth p.c
    simp only [PyData.depth, PyData.depthAll]
    omega
  dec p q := Dat.dec p.a q.a && (Dat.dec p.b q.b && Dat.dec p.c q.c)
  eqv p q := by simp only [PyData.eqv, PyData.eqvAll, Dat.eqv, Bool.and_true]
  iff p q := by
    rw [Bool.and_eq_true, Bool.and_eq_true, Dat.iff, Dat.iff, Dat.iff]
    constructor
    · rintro ⟨h1, h2, h3⟩; cases p; cases q; cases h1; cases h2; cases h3; rfl
    · intro h; rw [h]; exact ⟨rfl, rfl, rfl⟩
instance {A B C : Type} [Rp A] [Rp B] [Rp C] [Dat A] [Dat B] [Dat C] [DatT A] [DatT B] [DatT C] : DatT (T3 A B C) := ⟨fun p => by
  show (Dat.ok p.a && (Dat.ok p.b && Dat.ok p.c)) = true
  rw [DatT.ok p.a, DatT.ok p.b, DatT.ok p.c]; rfl⟩
/-! ### sorted -/
theorem perm_uniq {α : Type} {R : α → α → Prop} (as : ∀ a b, R a b → R b a → a = b) : ∀ {l m : List α}, l.Perm m → l.Pairwise R → m.Pairwise R → l = m
  | [], m, p, _, _ => p.nil_eq
  | a :: l, [], p, _, _ => absurd p.symm.nil_eq (by simp)
  | a :: l, b :: m, p, h1, h2 => by
    have e : a = b := by
      have ha := p.subset (List.mem_cons_self (a := a) (l := l))
      have hb := p.symm.subset (List.mem_cons_self (a := b) (l := m))
      rcases List.mem_cons.mp ha with z | z
      · exact z
      · rcases List.mem_cons.mp hb with y | y
        · exact y.symm
        · exact as a b ((List.pairwise_cons.mp h1).1 b y) ((List.pairwise_cons.mp h2).1 a z)
    subst e
    rw [perm_uniq as p.cons_inv (List.pairwise_cons.mp h1).2 (List.pairwise_cons.mp h2).2]
def sortI (xs : List Int) : List Int := xs.mergeSort fun a b => decide (a ≤ b)
theorem sortI_perm (xs : List Int) : (sortI xs).Perm xs := List.mergeSort_perm ..
theorem sortI_srt (xs : List Int) : (sortI xs).Pairwise (· ≤ ·) := (List.pairwise_mergeSort (le := fun a b : Int => decide (a ≤ b)) (fun a b c h1 h2 => by simp at *; omega) (fun a b => by simp; omega) xs).imp fun h => of_decide_eq_true h
theorem sortI_uniq {xs ys : List Int} (p : ys.Perm xs) (h : ys.Pairwise (· ≤ ·)) : ys = sortI xs := perm_uniq (fun a b h1 h2 => by omega) (p.trans (sortI_perm xs).symm) h (sortI_srt xs)
def lexLe (p q : Int × Int) : Bool := !SrtO.lexB q p
theorem lexLe_iff {p q : Int × Int} : lexLe p q = true ↔ p.1 < q.1 ∨ (p.1 = q.1 ∧ p.2 ≤ q.2) := by
  unfold lexLe
  rw [Bool.not_eq_true', SrtO.lexB_no]
  omega
def sortP (xs : List (Int × Int)) : List (Int × Int) := xs.mergeSort lexLe
theorem sortP_perm (xs : List (Int × Int)) : (sortP xs).Perm xs := List.mergeSort_perm ..
theorem sortP_srt (xs : List (Int × Int)) : (sortP xs).Pairwise fun a b => lexLe a b = true := List.pairwise_mergeSort (fun a b c h1 h2 => by rw [lexLe_iff] at *; omega) (fun a b => by rw [Bool.or_eq_true, lexLe_iff, lexLe_iff]; omega) xs
theorem sortP_uniq {xs ys : List (Int × Int)} (p : ys.Perm xs) (h : ys.Pairwise fun a b => lexLe a b = true) : ys = sortP xs := perm_uniq (fun a b h1 h2 => by rw [lexLe_iff] at h1 h2; exact Prod.ext (by omega) (by omega)) (p.trans (sortP_perm xs).symm) h (sortP_srt xs)
/-- the two ints of a pair that lies in a heap -/
def pairOf (h : Heap) (v : Value) : Int × Int := match v with
  | .ref a => match h.get? a with
    | some o => match o.data with
      | .seq xs _ => match xs.toList with
        | [.int x _, .int y _] => (x, y)
        | _ => (0, 0)
      | _ => (0, 0)
    | none => (0, 0)
  | _ => (0, 0)
def PairV (K : PySem.W.Frag) (H : Hp) (v : V) (p : Int × Int) : Prop := ∃ t, v = V.ref t ∧ SqT K H t [.int p.1, .int p.2]
def rSortedPT (K : PySem.W.Frag) : List V → Hp → VK → Prop := fun vs H Q => ∃ (a : Addr) (xs : List V) (ps : List (Int × Int)) (R : V → Int × Int → Prop), vs = [V.ref a] ∧ SqL K H a xs ∧ Paired R xs ps ∧ (∀ v p, R v p → PairV K H v p) ∧
  ∀ ys p, Paired R ys (sortP ps) → H p = none → Q (.ref p) (upd H p (.lst ys))
theorem pair_is {X : Cx} {pins : List (Addr × Obj)} {σ : St} {H : Hp} {s : Shared} (I : Inv X pins σ H s) {t : Addr} {p : Int × Int} (h : SqT X.K H t [.int p.1, .int p.2]) : pairOf s.heap (.ref t) = p ∧ Srt.IsPair s.heap (.ref t) p.1 p.2 := by
  obtain ⟨its, r, ⟨⟨cls, dd, data, sl⟩, ho, hc, n, hd⟩, _⟩ := I.tuple h
  simp only at hc hd
  subst hc hd
  obtain ⟨u1, u2, rfl, ri, rj⟩ := vals2 r
  obtain ⟨t1, rfl⟩ := ri
  obtain ⟨t2, rfl⟩ := rj
  refine ⟨?_, t, _, t1, t2, n, rfl, ho, rfl, rfl⟩
  unfold pairOf
  simp only [ho]
theorem cr_sortedPT {X : Cx} : CallR X (.builtin "sorted") (rSortedPT X.K) := by
  intro pins s σ H vs us Q I r h
  obtain ⟨a, xs, ps, R, rfl, hs, hx, hR, q⟩ := h
  obtain ⟨its, rv, hl, hz⟩ := I.list hs
  obtain ⟨u, rfl, ru⟩ := vals1 r
  obtain rfl : u = Value.ref a := ru
  have hx' : ∀ x ∈ xs, ∃ t, x = V.ref t := by
    clear q hs rv hz
    induction hx with
    | nil => intro x m; cases m
    | cons r _ ih =>
      intro x m
      rcases List.mem_cons.mp m with z | z
      · obtain ⟨t, e, _⟩ := hR _ _ r; exact ⟨t, z ▸ e⟩
      · exact ih x z
  obtain ⟨e1, e2⟩ := refs_back rv hx'
  -- the pairs, value by value
  have key : ∀ {xs : List V} {ps : List (Int × Int)} {us : List Value}, Paired R xs ps → xs = us.map backV → (∀ u ∈ us, ∃ a, u = Value.ref a) → us.map (pairOf s.heap) = ps ∧ ∀ u ∈ us, R (backV u) (pairOf s.heap u) ∧ Srt.IsPair s.heap u (pairOf s.heap u).1 (pairOf s.heap u).2 := by
    intro xs ps us h
    induction h generalizing us with
    | nil =>
      intro e _
      cases us with
      | nil => exact ⟨rfl, fun u m => by cases m⟩
      | cons _ _ => cases e
    | @cons x p xs ps r t ih =>
      intro e hu
      cases us with
      | nil => cases e
      | cons u us =>
        rw [List.map_cons] at e
        obtain ⟨ex, et⟩ := List.cons.inj e
        obtain ⟨k1, k2⟩ := ih et fun z m => hu z (List.mem_cons_of_mem _ m)
        obtain ⟨b, rfl⟩ := hu u List.mem_cons_self
        obtain ⟨t1, er, hq⟩ := hR _ _ r
        have eb : V.ref b = V.ref t1 := by rw [← er, ex]; rfl
        cases eb
        obtain ⟨j1, j2⟩ := pair_is I hq
        rw [ex] at r
        refine ⟨by rw [List.map_cons, j1, k1], fun z m => ?_⟩
        rcases List.mem_cons.mp m with z1 | z1
        · subst z1
          rw [j1]
          exact ⟨r, j2⟩
        · exact k2 z z1
  obtain ⟨k1, k2⟩ := key hx e1 e2
  refine SrtO.sorted_pairsO (k := pairOf s.heap) hl.isList (by rw [← rv.length]; exact hz) (fun v hv => (k2 v hv).2) fun h' d out h1 h2 kp hd hn => ?_
  have h3 : ∀ u ∈ out, ∃ a, u = Value.ref a := fun u hu => e2 u (h2.perm.mem_iff.mp hu)
  obtain ⟨n, hn⟩ := hn
  have hp : out.map (pairOf s.heap) = sortP ps := by
    refine sortP_uniq ?_ ?_
    · rw [← k1]; exact h2.perm.map _
    · refine List.pairwise_map.mpr (List.Pairwise.imp (fun {x y} z => ?_) h1)
      unfold lexLe
      show (!SrtO.lexB (pairOf s.heap y) (pairOf s.heap x)) = true
      have z' : SrtO.lexB (pairOf s.heap y) (pairOf s.heap x) = false := z
      rw [z']; rfl
  have hb : Paired R (out.map backV) (sortP ps) := by
    rw [← hp]
    have hall : ∀ u ∈ out, R (backV u) (pairOf s.heap u) := fun u hu => (k2 u (h2.perm.mem_iff.mp hu)).1
    clear hp h1 h2 h3 hn hd
    induction out with
    | nil => exact .nil
    | cons u r ih => exact .cons (hall u List.mem_cons_self) (ih fun z m => hall z (List.mem_cons_of_mem _ m))
  refine ⟨.ref d, upd H d (.lst (out.map backV)), I.laid (t' := s.toks) kp hd ⟨?_, out, n, vals_back h3, hn⟩, rfl, q _ d hb (I.hok.fresh hd)⟩
  rw [List.length_map, h2.perm.length_eq, ← rv.length]
  exact hz
section
variable {T : Type} [Rp T] {X : Cx} {W : WX} {g : Bool} {ρ : List Slot} {a b c e : Expr} {pos : Pos} {lv : Nat}
theorem e_lenset {p p2 q : Pos} {m : Res (List Int)} (C : CtxOk X W lv) (h : LG X W ρ a m) (hm : X.mg "len" = none) (hm2 : X.mg "set" = none) (hg : Gl X "len" := by rfl) (hg2 : Gl X "set" := by rfl) (na : starEach [a] X.env = (false, eval a X.env) :: starEach [] X.env := by rfl) :
    EG X W g ρ (.Call (.Name "len" p) [.Call (.Name "set" p2) [a] [] q] [] pos) (m.bind fun xs => guardR (decide (xs.length ≤ 4000)) (.ok ((nubI xs).length : Int))) := by
  obtain ⟨ta, pa, qa⟩ := h.ex
  refine ⟨_, pe_lenSetG hg hm hg2 hm2 pa C.calm na, fun S own σ H Q rs h => qa S own σ H _ rs (h.bind.imp (fun xs hx H1 l vs s r1 r2 => ?_) fun _ z => z)⟩
  obtain ⟨h1, hx⟩ := hx.guard
  have e := RpAll.int r2
  subst e
  exact ⟨l, xs, rfl, .inl (.inl r1), of_decide_eq_true h1, hx H1 _ s rfl⟩
theorem f_sortI {p : Pos} {ma : Res (List Int)} (ha : LG X W ρ a ma) (hm : X.mg "sorted" = none) (hg : Gl X "sorted" := by rfl)
    (he : starEach [a] X.env = (false, eval a X.env) :: starEach [] X.env := by rfl) (hpl : (backTo pos (starEach [] X.env)).any (·.1) = false := by rfl) : FG X W ρ (.Call (.Name "sorted" p) [a] [] pos) (ma.bind fun xs => .ok (sortI xs)) := by
  obtain ⟨ta, pa, qa⟩ := ha.ex
  refine ⟨_, pe_callB cr_sortedI hg hm (by decide +kernel) (pa_cons pa pa_nil he) (by decide) (by decide) he hpl, fun S own σ H Q rs h => lone_run (R' := fun v H2 => rSortedI X.K [v] H2 Q) qa rs h fun xs a vs H2 s r1 r2 hp => ?_⟩
  have e := RpAll.int r2
  subst e
  refine ⟨a, xs, rfl, .inl (.inl r1), fun ns' l p1 p2 nl => ?_⟩
  have e := sortI_uniq p1 p2
  subst e
  refine hp (upd H2 l (.lst ((sortI xs).map V.int))) l _ (s.trans (same_upd nl)) (s.free nl) upd_same ?_
  exact RpAll.of_int _
theorem f_sortP {p : Pos} {ma : Res (List (Int × Int))} (ha : LG X W ρ a ma) (hm : X.mg "sorted" = none) (hg : Gl X "sorted" := by rfl)
    (he : starEach [a] X.env = (false, eval a X.env) :: starEach [] X.env := by rfl) (hpl : (backTo pos (starEach [] X.env)).any (·.1) = false := by rfl) : FG X W ρ (.Call (.Name "sorted" p) [a] [] pos) (ma.bind fun xs => .ok (sortP xs)) := by
  obtain ⟨ta, pa, qa⟩ := ha.ex
  have up : ∀ {K : PySem.W.Frag} {B : List Addr} {H : Hp} {v : V} {x : Int × Int}, rp K (hide B H) v x → PairV K (hide B H) v x := fun {K B H v x} ⟨t, vs, e, h1, h2⟩ => by
    cases h2 with
    | cons r1 h2 =>
      cases h2 with
      | cons r2 h2 =>
        cases h2
        have r1' : _ = V.int x.1 := r1
        have r2' : _ = V.int x.2 := r2
        subst r1' r2'
        exact ⟨t, e, h1⟩
  have dn : ∀ {K : PySem.W.Frag} {H : Hp} {v : V} {x : Int × Int}, PairV K H v x → rp K H v x := fun {K H v x} ⟨t, e, h⟩ => ⟨t, _, e, h, .cons rfl (.cons rfl .nil)⟩
  refine ⟨_, pe_callB cr_sortedPT hg hm (by decide +kernel) (pa_cons pa pa_nil he) (by decide) (by decide) he hpl, fun S own σ H Q rs h => lone_run (R' := fun v H2 => rSortedPT X.K [v] H2 Q) qa rs h fun xs a vs H2 s r1 r2 hp => ?_⟩
  refine ⟨a, vs, xs, rp X.K (hide (S ++ own) H2), rfl, .inl (.inl r1), r2, fun v p r => ?_, fun ys l hy nl => ?_⟩
  · obtain ⟨t, e, h⟩ := up r
    exact ⟨t, e, SqT.same hide_sub h⟩
  · refine hp (upd H2 l (.lst ys)) l ys (s.trans (same_upd nl)) (s.free nl) upd_same ?_
    rw [hide_new nl ((rs.mono s).fresh nl)]
    exact hy
end
end Py

set_option Elab.async false
set_option linter.all false
set_option maxRecDepth 100000
set_option maxHeartbeats 1000000
/-! Py, part M: the plain side. -/
namespace Py
open PySem PySem.Spec L2
open Rp (rp)
/-- it answers, and so -/
abbrev Ok {α : Type} (m : Res α) (Q : α → Prop) : Prop := Post m Q fun _ => False
section
variable {α β γ S T U : Type} {E : Ex → Prop} {Q Q' : β → Prop}
theorem ok_eq {m : Res α} {x : α} (h : Ok m (· = x)) : m = .ok x := by
  cases m with
  | ok a => exact congrArg Res.ok h
  | err e => exact h.elim
  | bad => exact h.elim
theorem Ok.of {m : Res α} {x : α} (h : m = .ok x) : Ok m (· = x) := by subst h; exact rfl
theorem wp {m : Res α} {f : α → Res β} {P : α → Prop} (h : Post m P E) (k : ∀ a, P a → Post (f a) Q E) : Post (m.bind f) Q E := by
  cases m with
  | ok a => exact k a h
  | err e => exact h
  | bad => exact h
theorem wpe {m : Res α} {f : α → Res β} {a : α} (h : m = .ok a) (k : Post (f a) Q E) : Post (m.bind f) Q E := by subst h; exact k
theorem Post.mono {m : Res α} {P P' : α → Prop} (h : Post m P E) (k : ∀ a, P a → P' a) : Post m P' E := h.imp k fun _ z => z
theorem Post.lift {m : Res α} {P : α → Prop} (h : Ok m P) : Post m P E := h.imp (fun _ z => z) fun _ z => z.elim
theorem Post.and {m : Res α} {P P' : α → Prop} (h : Post m P E) (k : Post m P' E) : Post m (fun a => P a ∧ P' a) E := by
  cases m with
  | ok a => exact ⟨h, k⟩
  | err e => exact h
  | bad => exact h
/-- bind at an answer, not by rfl (simp's rfl steps cost the kernel) -/
theorem bok (a : α) (f : α → Res β) : (Res.ok a).bind f = f a := by
  have h : ∀ m : Res α, m = .ok a → m.bind f = f a := by intro m h; subst h; rfl
  exact h _ rfl
theorem guardR_ok {c : Bool} {m : Res α} (h : c = true) : guardR c m = m := by subst h; rfl
/-! numbers -/
theorem log2_lt {n k : Nat} (h : n < 2 ^ k) (hk : 0 < k) : n.log2 < k := by
  by_cases z : n = 0
  · subst z; simpa using hk
  · exact (Nat.log2_lt z).2 h
theorem mul_big {x y : Int} {a b : Nat} (hx : x.natAbs < 2 ^ a) (hy : y.natAbs < 2 ^ b) (h : a + b ≤ 1000000) : mulM x y = .ok (x * y) := by
  have c : mulOk x y = true := by
    unfold mulOk
    by_cases a0 : a = 0
    · subst a0
      have : x = 0 := by omega
      subst this
      rfl
    by_cases b0 : b = 0
    · subst b0
      have : y = 0 := by omega
      subst this
      simp
    have h1 := log2_lt hx (by omega)
    have h2 := log2_lt hy (by omega)
    have : x.natAbs.log2 + y.natAbs.log2 < 1000000 := by omega
    simp [this]
  exact guardR_ok c
theorem mul_l {x y : Int} (h : x.natAbs < 18446744073709551616) : mulM x y = .ok (x * y) := by
  have c : mulOk x y = true := by
    unfold mulOk
    have h1 : -(2 ^ 64) < x := by omega
    have h2 : x < 2 ^ 64 := by omega
    rw [decide_eq_true h1, decide_eq_true h2]; rfl
  exact guardR_ok c
theorem mul_r {x y : Int} (h : y.natAbs < 18446744073709551616) : mulM x y = .ok (x * y) := by
  have c : mulOk x y = true := by
    unfold mulOk
    have h1 : -(2 ^ 64) < y := by omega
    have h2 : y < 2 ^ 64 := by omega
    rw [decide_eq_true h1, decide_eq_true h2]
    cases (decide (-(2 ^ 64) < x) && decide (x < 2 ^ 64)) <;> rfl
  exact guardR_ok c
theorem mod_ok {x y : Int} (h : y ≠ 0) : modM x y = .ok (x.fmod y) := guardR_ok (decide_eq_true h)
theorem mod_pos {x y : Int} (h : 0 < y) : modM x y = .ok (x % y) := by rw [mod_ok (by omega), Int.fmod_eq_emod_of_nonneg _ (by omega)]
theorem div_ok {x y : Int} (h : y ≠ 0) {k : Nat} (h2 : y.natAbs < 2 ^ k) (hk : k ≤ 9000) : divM x y = .ok (x.fdiv y) := by
  have k0 : 0 < k := by
    cases k with
    | zero => omega
    | succ n => omega
  have h3 := log2_lt h2 k0
  exact guardR_ok (by unfold divOk; rw [decide_eq_true h, decide_eq_true (show y.natAbs.log2 < 9000 by omega)]; rfl)
theorem div_pos {x y : Int} (h : 0 < y) {k : Nat} (h2 : y.natAbs < 2 ^ k) (hk : k ≤ 9000) : divM x y = .ok (x / y) := by
  rw [div_ok (by omega) h2 hk, Int.fdiv_eq_ediv_of_nonneg _ (by omega)]
theorem div_s {x y : Int} (h : 0 < y) (h2 : y < 4294967296) : divM x y = .ok (x / y) := div_pos h (k := 32) (by omega) (by omega)
theorem pow_ok {x y : Int} (h : 0 ≤ y) (h2 : y ≤ 1000000) (h3 : x.natAbs < 18446744073709551616) : powM x y = .ok (x ^ y.toNat) :=
  guardR_ok (by rw [decide_eq_true h, decide_eq_true h2, decide_eq_true (show x.natAbs < 2 ^ 64 by omega)]; rfl)
theorem inRange_of {j : Int} (h : -4611686018427387904 ≤ j) (h2 : j < 4611686018427387904) : inRange j = true := by
  unfold inRange
  rw [decide_eq_true (show -(2 ^ 62) ≤ j by omega), decide_eq_true (show j < 2 ^ 62 by omega)]; rfl
theorem rng_mem {lo hi x : Int} (h : x ∈ rng lo hi) : lo ≤ x ∧ x < hi := by
  obtain ⟨i, hi', e⟩ := List.mem_map.mp h
  have := List.mem_range.mp hi'
  omega
/-! lists -/
theorem idx_ok {xs : List α} {i : Int} (h : 0 ≤ i) (h2 : i < xs.length) : idxM xs i = .ok (xs[i.toNat]'(by omega)) := by
  unfold idxM atI ixN
  rw [if_pos h, if_pos h2]
  show (match xs[i.toNat]? with | some x => Res.ok x | none => .bad) = _
  rw [List.getElem?_eq_getElem (by omega)]
theorem idx_all {xs : List α} {P : α → Prop} {i : Int} (h : 0 ≤ i) (h2 : i < xs.length) (k : ∀ x ∈ xs, P x) : Post (idxM xs i) P E := by
  rw [idx_ok h h2]
  exact k _ (List.getElem_mem _)
theorem idx_nat {xs : List α} {n : Nat} (h : n < xs.length) : idxM xs (n : Int) = .ok xs[n] := idx_ok (by omega) (by omega)
theorem apn_ok {xs : List α} {x : α} (h : xs.length < sizeLine) : appM xs x = .ok (xs ++ [x]) := guardR_ok (decide_eq_true h)
theorem cat_ok {xs ys : List α} (h : xs.length + ys.length ≤ sizeLine) : catM xs ys = .ok (xs ++ ys) := guardR_ok (decide_eq_true h)
theorem ipow2 {m n : Nat} (h : m ≤ n) : (2 : Int) ^ m ≤ 2 ^ n := by
  have z := Nat.pow_le_pow_right (n := 2) (by decide) h
  have e : ∀ k : Nat, (2 : Int) ^ k = ((2 ^ k : Nat) : Int) := fun k => by simp
  rw [e, e]; exact Int.ofNat_le.mpr z
theorem ipow10 {m n : Nat} (h : m ≤ n) : (10 : Int) ^ m ≤ 10 ^ n := by
  have z := Nat.pow_le_pow_right (n := 10) (by decide) h
  have e : ∀ k : Nat, (10 : Int) ^ k = ((10 ^ k : Nat) : Int) := fun k => by simp
  rw [e, e]; exact Int.ofNat_le.mpr z
theorem foldl_keep {P : α → Prop} {f : α → β → α} {xs : List β} {s : α} (h : P s) (k : ∀ s x, x ∈ xs → P s → P (f s x)) : P (xs.foldl f s) := by
  induction xs generalizing s with
  | nil => exact h
  | cons x r ih => exact ih (k s x (List.mem_cons_self ..) h) fun s y hy => k s y (List.mem_cons_of_mem _ hy)
/-! loops -/
theorem forR_wp {f : S → T → Res S} {I : List T → S → Prop} {xs : List T} {s : S} {done : List T} (h : I done s) (k : ∀ d x r s, done ++ xs = d ++ x :: r → I d s → Post (f s x) (fun s' => I (d ++ [x]) s') E) : Post (forR f xs s) (fun s' => I (done ++ xs) s') E := by
  induction xs generalizing s done with
  | nil => rw [List.append_nil]; exact h
  | cons x r ih =>
    refine wp (k done x r s rfl h) fun s' h' => ?_
    have z := ih (done := done ++ [x]) h' fun d y q s e => k d y q s (by rw [← e]; simp)
    rw [List.append_assoc] at z
    exact z
/-- a fold whose steps keep I -/
theorem forR_inv {f : S → T → Res S} {I : S → Prop} {xs : List T} {s : S} (h : I s) (k : ∀ x s, x ∈ xs → I s → Post (f s x) I E) : Post (forR f xs s) I E :=
  forR_wp (I := fun _ s => I s) (done := []) h fun d x r s e hs => k x s (by have e2 : xs = d ++ x :: r := e; rw [e2]; simp) hs
theorem forR_eq {f : S → T → Res S} {g : S → T → S} : ∀ {xs : List T} {s : S}, (∀ s x, x ∈ xs → f s x = .ok (g s x)) → forR f xs s = .ok (xs.foldl g s)
  | [], s, h => rfl
  | x :: r, s, h => by
    show (f s x).bind _ = _
    rw [h s x (List.mem_cons_self ..)]
    exact forR_eq fun s y hy => h s y (List.mem_cons_of_mem _ hy)
/-- a loop that only looks, and finds nothing to return -/
theorem forC_look {B R : Type} {f : Unit → T → Res (Ctl Unit Unit R)} {xs : List T} (h : ∀ x ∈ xs, f () x = .ok (.nx ())) : (forC f xs () : Res (Ctl Unit B R)) = .ok (.nx ()) := by
  induction xs with
  | nil => rfl
  | cons x r ih =>
    show (f () x).bind _ = _
    rw [h x (List.mem_cons_self ..)]
    exact ih fun y hy => h y (List.mem_cons_of_mem _ hy)
theorem lcM_ok {t : T → Res Bool} {f : T → Res U} {g : T → U} {xs : List T} (h : ∀ x ∈ xs, t x = .ok true) (h2 : ∀ x ∈ xs, f x = .ok (g x)) : lcM t f xs = .ok (xs.map g) := by
  induction xs with
  | nil => rfl
  | cons x r ih =>
    show (t x).quiet.bind _ = _
    rw [h x (List.mem_cons_self ..)]
    show (f x).quiet.bind _ = _
    rw [h2 x (List.mem_cons_self ..)]
    show (lcM t f r).bind _ = _
    rw [ih (fun y hy => h y (List.mem_cons_of_mem _ hy)) (fun y hy => h2 y (List.mem_cons_of_mem _ hy))]
    rfl
theorem lcX_ok {f : T → Res U} {g : T → U} {xs : List T} (hl : xs.length ≤ sizeLine) (h2 : ∀ x ∈ xs, f x = .ok (g x)) : lcX (fun _ => Res.ok true) f xs = .ok (xs.map g) := by
  unfold lcX
  rw [guardR_ok (decide_eq_true hl)]
  exact lcM_ok (fun _ _ => rfl) h2
end
/-! what the laws compare: data of few levels -/
def lenCap : Nat := 1000000
theorem lenCap_eq : lenCap = 1000000 := rfl
def Dsh : Nat → PyData → Prop
  | 0, _ => False
  | n + 1, .list xs => xs.length < lenCap ∧ ∀ x ∈ xs, Dsh n x
  | n + 1, .tuple xs => xs.length < lenCap ∧ ∀ x ∈ xs, Dsh n x
  | _ + 1, .none => True
  | _ + 1, .bool _ => True
  | _ + 1, .int _ => True
  | _ + 1, .str x => PySem.PyData.strOk x = true
  | _ + 1, _ => False
theorem dsh_list {T : Type} [Rp T] [Dat T] {n : Nat} {xs : List T} (h : xs.length < lenCap) (k : ∀ x ∈ xs, Dsh n (Dat.toD x)) : Dsh (n + 1) (Dat.toD xs) := by
  refine ⟨by rw [List.length_map]; exact h, fun d hd => ?_⟩
  obtain ⟨x, hx, rfl⟩ := List.mem_map.mp hd
  exact k x hx
theorem dsh_tup {T : Type} [Rp T] [Dat T] {n : Nat} {xs : Tup T} (h : xs.l.length < lenCap) (k : ∀ x ∈ xs.l, Dsh n (Dat.toD x)) : Dsh (n + 1) (Dat.toD xs) := by
  refine ⟨by rw [List.length_map]; exact h, fun d hd => ?_⟩
  obtain ⟨x, hx, rfl⟩ := List.mem_map.mp hd
  exact k x hx
theorem dsh_pair {A B : Type} [Rp A] [Rp B] [Dat A] [Dat B] {n : Nat} {p : A × B} (h1 : Dsh n (Dat.toD p.1)) (h2 : Dsh n (Dat.toD p.2)) : Dsh (n + 1) (Dat.toD p) := by
  refine ⟨by show 2 < lenCap; rw [lenCap_eq]; omega, fun d hd => ?_⟩
  rcases List.mem_cons.mp hd with rfl | hd
  · exact h1
  · rcases List.mem_cons.mp hd with rfl | hd
    · exact h2
    · cases hd
theorem eqvD_int (i : Int) : eqvD ⟨.int i⟩ ⟨.int i⟩ = .ok true := by
  unfold eqvD
  have h : SeqAt.shaped (.int i) = true := dat_shaped (T := Int) (by decide) i rfl
  rw [guardR_ok (by rw [show SeqAt.shaped (PD.mk (.int i)).d = true from h]; rfl)]
  show Res.ok (PyData.eqv (.int i) (.int i)) = _
  rw [show PyData.eqv (.int i) (.int i) = Dat.dec i i from Dat.eqv i i, (Dat.iff i i).mpr rfl]
theorem eqvD_str {i : Str} (h0 : PySem.PyData.strOk i = true) : eqvD ⟨.str i⟩ ⟨.str i⟩ = .ok true := by
  unfold eqvD
  have h : SeqAt.shaped (.str i) = true := dat_shaped (T := Str) (by decide) i h0
  rw [guardR_ok (by rw [show SeqAt.shaped (PD.mk (.str i)).d = true from h]; rfl)]
  show Res.ok (PyData.eqv (.str i) (.str i)) = _
  rw [show PyData.eqv (.str i) (.str i) = Dat.dec i i from Dat.eqv i i, (Dat.iff i i).mpr rfl]
theorem idxD_list {xs : List PyData} {i : Int} (h : 0 ≤ i) (h2 : i < xs.length) : idxD ⟨.list xs⟩ i = .ok ⟨xs[i.toNat]'(by omega)⟩ := by
  show (idxM xs i).bind _ = _
  rw [idx_ok h h2]; rfl
theorem idxD_tup {xs : List PyData} {i : Int} (h : 0 ≤ i) (h2 : i < xs.length) : idxD ⟨.tuple xs⟩ i = .ok ⟨xs[i.toNat]'(by omega)⟩ := by
  show (idxM xs i).bind _ = _
  rw [idx_ok h h2]; rfl
end Py

set_option Elab.async false
set_option linter.all false
set_option maxRecDepth 100000
set_option maxHeartbeats 1000000
/-! Py, part N: the plain side, further. -/
namespace Py
open PySem PySem.Spec L2
section
variable {α β γ S T U B R : Type} {E : Ex → Prop}
/-! places -/
def at0 {α : Type} [Inhabited α] (xs : List α) (i : Int) : α := xs.getD i.toNat default
theorem idx0 [Inhabited α] {xs : List α} {i : Int} (h : 0 ≤ i) (h2 : i < xs.length) : idxM xs i = .ok (at0 xs i) := by
  rw [idx_ok h h2]
  unfold at0
  rw [List.getD_eq_getElem?_getD, List.getElem?_eq_getElem (by omega)]
  rfl
theorem at0_mem [Inhabited α] {xs : List α} {i : Int} (h : 0 ≤ i) (h2 : i < xs.length) : at0 xs i ∈ xs := by
  unfold at0
  rw [List.getD_eq_getElem?_getD, List.getElem?_eq_getElem (by omega)]
  exact List.getElem_mem _
theorem at0_all [Inhabited α] {P : α → Prop} {xs : List α} (h : ∀ x ∈ xs, P x) (hd : P default) (i : Int) : P (at0 xs i) := by
  unfold at0
  rw [List.getD_eq_getElem?_getD]
  by_cases hi : i.toNat < xs.length
  · rw [List.getElem?_eq_getElem hi]
    exact h _ (List.getElem_mem _)
  · rw [List.getElem?_eq_none (by omega)]
    exact hd
theorem at0_nat [Inhabited α] {xs : List α} {n : Nat} (h : n < xs.length) : at0 xs (n : Int) = xs[n] := by
  unfold at0
  rw [List.getD_eq_getElem?_getD, Int.toNat_natCast, List.getElem?_eq_getElem h]
  rfl
theorem setM_ok {xs : List α} {i : Int} {x : α} (h : 0 ≤ i) (h2 : i < xs.length) : setM xs i x = .ok (xs.set i.toNat x) := by
  unfold setM ixN
  rw [if_pos h, if_pos h2]
theorem rng_len (n : Nat) : (rng 0 (n : Int)).length = n := by rw [rng_length]; omega
theorem rng_at {n i : Nat} (h : i < (rng 0 (n : Int)).length) : (rng 0 (n : Int))[i] = (i : Int) := by
  have := rng_get (List.getElem?_eq_getElem h)
  omega
theorem rng_nat {n : Int} (h : 0 ≤ n) : rng 0 n = rng 0 (n.toNat : Int) := by rw [Int.toNat_of_nonneg h]
/-- a walk by places is a walk -/
theorem rng_map [Inhabited α] (xs : List α) (f : α → β) : (rng 0 (xs.length : Int)).map (fun i => f (at0 xs i)) = xs.map f := by
  apply List.ext_getElem
  · rw [List.length_map, List.length_map, rng_len]
  · intro i h1 h2
    rw [List.getElem_map, List.getElem_map, rng_at, at0_nat (by rw [List.length_map] at h2; exact h2)]
theorem rng_zip [Inhabited α] [Inhabited β] (xs : List α) (ys : List β) (h : xs.length ≤ ys.length) (f : α → β → γ) : (rng 0 (xs.length : Int)).map (fun i => f (at0 xs i) (at0 ys i)) = (xs.zip ys).map fun v => f v.1 v.2 := by
  apply List.ext_getElem
  · rw [List.length_map, List.length_map, rng_len, List.length_zip]; omega
  · intro i h1 h2
    rw [List.length_map, List.length_zip] at h2
    rw [List.getElem_map, List.getElem_map, rng_at, at0_nat (by omega), at0_nat (by omega), List.getElem_zip]
/-! loops -/
theorem lcM_fil {t : T → Res Bool} {f : T → Res U} {p : T → Bool} {g : T → U} {xs : List T} (h : ∀ x ∈ xs, t x = .ok (p x)) (h2 : ∀ x ∈ xs, f x = .ok (g x)) : lcM t f xs = .ok ((xs.filter p).map g) := by
  induction xs with
  | nil => rfl
  | cons x r ih =>
    have ih := ih (fun y hy => h y (List.mem_cons_of_mem _ hy)) (fun y hy => h2 y (List.mem_cons_of_mem _ hy))
    show (t x).quiet.bind _ = _
    rw [h x (List.mem_cons_self ..)]
    show (if p x then (f x).quiet.bind _ else _) = _
    cases hp : p x with
    | true =>
      rw [if_pos rfl, h2 x (List.mem_cons_self ..), List.filter_cons, if_pos hp]
      show (lcM t f r).bind _ = _
      rw [ih]; rfl
    | false => rw [if_neg (by simp), ih, List.filter_cons, if_neg (by simp [hp])]
theorem lcX_fil {t : T → Res Bool} {f : T → Res U} {p : T → Bool} {g : T → U} {xs : List T} (hl : xs.length ≤ sizeLine) (h : ∀ x ∈ xs, t x = .ok (p x)) (h2 : ∀ x ∈ xs, f x = .ok (g x)) : lcX t f xs = .ok ((xs.filter p).map g) := by
  unfold lcX
  rw [guardR_ok (decide_eq_true hl)]
  exact lcM_fil h h2
theorem lcX_id {t : T → Res Bool} {p : T → Bool} {xs : List T} (hl : xs.length ≤ sizeLine) (h : ∀ x ∈ xs, t x = .ok (p x)) : lcX t (fun x => Res.ok x) xs = .ok (xs.filter p) := by
  rw [lcX_fil (g := fun x => x) hl h fun _ _ => rfl, List.map_id']
theorem lcX_all {f : T → Res U} {P : U → Prop} {xs : List T} (hl : xs.length ≤ sizeLine) (h : ∀ x ∈ xs, Ok (f x) P) : Ok (lcX (fun _ => Res.ok true) f xs) fun ys => ys.length = xs.length ∧ ∀ y ∈ ys, P y := by
  unfold lcX
  rw [guardR_ok (decide_eq_true hl)]
  clear hl
  induction xs with
  | nil => exact ⟨rfl, fun _ h => nomatch h⟩
  | cons x r ih =>
    show Post ((Res.ok true).quiet.bind _) _ _
    show Post ((f x).quiet.bind _) _ _
    have hx := h x (List.mem_cons_self ..)
    cases e : f x with
    | err z => rw [e] at hx; exact hx.elim
    | bad => rw [e] at hx; exact hx.elim
    | ok y =>
      rw [e] at hx
      show Post ((lcM _ f r).bind _) _ _
      refine wp (ih fun y hy => h y (List.mem_cons_of_mem _ hy)) fun ys hys => ⟨by simp [hys.1], fun z hz => ?_⟩
      rcases List.mem_cons.mp hz with rfl | hz
      · exact hx
      · exact hys.2 z hz
theorem forC_ret {f : S → T → Res (Ctl S S R)} {p : T → Bool} {g : S → T → S} {v : R} {xs : List T} : ∀ {s : S}, (∀ s, ∀ x ∈ xs, f s x = .ok (if p x then .rt v else .nx (g s x))) → (forC f xs s : Res (Ctl S B R)) = .ok (if xs.any p then .rt v else .nx (xs.foldl g s)) := by
  induction xs with
  | nil => intro s _; rfl
  | cons x r ih =>
    intro s h
    show (f s x).bind _ = _
    rw [h s x (List.mem_cons_self ..), List.any_cons, List.foldl_cons]
    cases p x with
    | true => rfl
    | false =>
      show forC f r (g s x) = _
      rw [ih fun s y hy => h s y (List.mem_cons_of_mem _ hy)]
      rfl
theorem forC_inv {f : S → T → Res (Ctl S S R)} {I : S → Prop} {xs : List T} {s : S} (h0 : I s) (h : ∀ s, I s → ∀ x ∈ xs, Ok (f s x) fun c => ∃ s', c = .nx s' ∧ I s') : Ok (forC f xs s : Res (Ctl S B R)) fun c => ∃ s', c = .nx s' ∧ I s' := by
  induction xs generalizing s with
  | nil => exact ⟨s, rfl, h0⟩
  | cons x r ih =>
    show Post ((f s x).bind _) _ _
    refine wp (h s h0 x (List.mem_cons_self ..)) fun c hc => ?_
    obtain ⟨s', rfl, hs⟩ := hc
    exact ih hs fun s hs y hy => h s hs y (List.mem_cons_of_mem _ hy)
theorem liftC_ok (v : R) : (liftC (.ok (.rt v)) : Res (Ctl S B R)) = .ok (.rt v) := rfl
theorem thenR_nx (s : S) (k : S → Res R) : thenR (.ok (.nx s)) k = k s := rfl
theorem thenR_rt (v : R) (k : S → Res R) : thenR (.ok (.rt v)) k = .ok v := rfl
theorem thenR_if (c : Bool) (v : R) (s : S) (k : S → Res R) : thenR (.ok (if c then .rt v else .nx s)) k = if c then .ok v else k s := by cases c <;> rfl
theorem thenC_nx {S₁ : Type} (s : S) (k : S → Res (Ctl S₁ B R)) : thenC (.ok (.nx s)) k = k s := rfl
theorem thenC_if {S₁ : Type} (c : Bool) (v : R) (s : S) (k : S → Res (Ctl S₁ B R)) : thenC (.ok (if c then .rt v else .nx s)) k = if c then .ok (.rt v) else k s := by cases c <;> rfl
theorem thenR_wp {m : Res (Ctl S Empty R)} {k : S → Res R} {P : S → Prop} {Q : R → Prop} (h : Ok m fun c => ∃ s, c = .nx s ∧ P s) (hk : ∀ s, P s → Ok (k s) Q) : Ok (thenR m k) Q := by
  cases m with
  | ok c => obtain ⟨s, rfl, hs⟩ := h; exact hk s hs
  | err e => exact h.elim
  | bad => exact h.elim
theorem thenC_wp {S₁ : Type} {m : Res (Ctl S B R)} {k : S → Res (Ctl S₁ B R)} {P : S → Prop} {Q : Ctl S₁ B R → Prop} (h : Ok m fun c => ∃ s, c = .nx s ∧ P s) (hk : ∀ s, P s → Ok (k s) Q) : Ok (thenC m k) Q := by
  cases m with
  | ok c => obtain ⟨s, rfl, hs⟩ := h; exact hk s hs
  | err e => exact h.elim
  | bad => exact h.elim
/-! slices -/
theorem cut_to {xs : List α} {i : Int} (h : 0 ≤ i) (h2 : i ≤ xs.length) : cut xs none (some i) = xs.take i.toNat := by
  obtain ⟨n, rfl⟩ := Int.eq_ofNat_of_zero_le h
  unfold cut
  rw [HT.sIx_nat, HT.sIx_none, List.drop_zero, Nat.sub_zero, Nat.min_eq_left (by omega), Int.toNat_natCast]
theorem cut_from {xs : List α} {i : Int} (h : 0 ≤ i) (h2 : i ≤ xs.length) : cut xs (some i) none = xs.drop i.toNat := by
  obtain ⟨n, rfl⟩ := Int.eq_ofNat_of_zero_le h
  unfold cut
  rw [HT.sIx_nat, HT.sIx_none, Nat.min_eq_left (by omega)]
  exact List.take_of_length_le (by rw [List.length_drop]; exact Nat.le_refl _)
theorem cut_mid {xs : List α} {i j : Int} (h : 0 ≤ i) (h1 : i ≤ j) (h2 : j ≤ xs.length) : cut xs (some i) (some j) = (xs.drop i.toNat).take (j - i).toNat := by
  obtain ⟨n, rfl⟩ := Int.eq_ofNat_of_zero_le h
  obtain ⟨m, rfl⟩ := Int.eq_ofNat_of_zero_le (show 0 ≤ j by omega)
  unfold cut
  rw [HT.sIx_nat, HT.sIx_nat, Nat.min_eq_left (by omega), Nat.min_eq_left (by omega)]
  congr 1
  omega
theorem cut_sub {xs : List α} {a b : Option Int} {x : α} (h : x ∈ cut xs a b) : x ∈ xs := List.mem_of_mem_drop (List.mem_of_mem_take h)
theorem cut_len {xs : List α} {a b : Option Int} : (cut xs a b).length ≤ xs.length := by
  unfold cut
  rw [List.length_take, List.length_drop]
  omega
end
end Py

set_option Elab.async false
set_option linter.all false
set_option maxRecDepth 100000
set_option maxHeartbeats 1000000
/-! Py, part O: things of several kept lists: made, handed back, kept, lent. -/
namespace Py
open PySem PySem.Spec L2
open Rp (rp)

/-- the slots, and beside them what has been taken: bs -/
structure RX (K : PySem.W.Frag) (S : List Addr) (ρ : List Slot) (σ : St) (H : Hp) (own bs : List Addr) : Prop where
  rs : ∃ ads, Rs K (hide (S ++ own) H) H ρ σ ads ∧ (bs ++ ads).Nodup ∧ ∀ a ∈ bs ++ ads, a ∈ own
  out : ∀ a ∈ own, a ∉ S
  dom : ∀ a ∈ S ++ own, H a ≠ none
/-- what is kept has only grown by what is new -/
structure Gw (own : List Addr) (H : Hp) (own' : List Addr) (H' : Hp) : Prop where
  same : Same H H'
  new : ∀ a ∈ own', a ∈ own ∨ H a = none
  sub : ∀ a ∈ own, a ∈ own'
section
variable {K : PySem.W.Frag} {S own own' own1 bs : List Addr} {ρ ρ' : List Slot} {σ : St} {H H' H1 : Hp}
theorem RX.to (r : RX K S ρ σ H own bs) : RS K S ρ σ H own := by
  obtain ⟨⟨ads, h1, h2, h3⟩, h4, h5⟩ := r
  exact ⟨⟨ads, h1, (List.nodup_append.mp h2).2.1, fun a ha => h3 a (List.mem_append_right _ ha)⟩, h4, h5⟩
theorem RS.rx (r : RS K S ρ σ H own) : RX K S ρ σ H own [] := by
  obtain ⟨⟨ads, h1, h2, h3⟩, h4, h5⟩ := r
  exact ⟨⟨ads, h1, h2, h3⟩, h4, h5⟩
theorem RX.mono (r : RX K S ρ σ H own bs) (s : Same H H') : RX K S ρ σ H' own bs := by
  obtain ⟨⟨ads, h1, h2, h3⟩, h4, h5⟩ := r
  exact ⟨⟨ads, h1.mono (hide_same s) fun a _ o e => s a o e, h2, h3⟩, h4, fun a ha => dom_same s (h5 a ha)⟩
theorem Gw.ext (g : Gw own H own' H') : Ext own H own' H' := ⟨fun b o e _ => g.same b o e, fun b h => dom_same g.same h, g.new⟩
theorem Gw.refl (s : Same H H') : Gw own H own H' := ⟨s, fun _ h => .inl h, fun _ h => h⟩
theorem Gw.trans (a : Gw own H own1 H1) (b : Gw own1 H1 own' H') : Gw own H own' H' where
  same := a.same.trans b.same
  new c h := by
    rcases b.new c h with q | q
    · exact a.new c q
    · refine .inr ?_
      cases e : H c with
      | none => rfl
      | some o => rw [a.same c o e] at q; cases q
  sub c h := b.sub c (a.sub c h)
theorem Gw.sight (g : Gw own H own' H') : Same (hide (S ++ own) H) (hide (S ++ own') H') := g.ext.sight fun _ _ _ => trivial
theorem Gw.cons {a : Addr} (s : Same H H') (na : H a = none) : Gw own H (a :: own) H' := ⟨s, fun b hb => by
  rcases List.mem_cons.mp hb with z | z
  · exact .inr (z ▸ na)
  · exact .inl z, fun b hb => List.mem_cons_of_mem _ hb⟩
theorem ErrX.grow {X : Cx} {W : WX} {e : Ex} (h : ErrX X W S own σ H e) (g : Gw own H own' H') : ErrX X W S own' σ H' e := fun H2 c d s1 x => h H2 c d (g.same.trans s1) (exr_sub (hide_mono fun b hb => by
  rcases List.mem_append.mp hb with z | z
  · exact List.mem_append_left _ z
  · exact List.mem_append_right _ (g.sub b z)) x)
/-- one more that is new is taken -/
theorem RX.more {a : Addr} (r : RX K S ρ σ H own bs) (s : Same H H') (na : H a = none) (e : H' a ≠ none) : RX K S ρ σ H' (a :: own) (a :: bs) := by
  obtain ⟨⟨ads, h1, h2, h3⟩, h4, h5⟩ := r
  refine ⟨⟨ads, h1.mono (same_hide_new s na) fun b _ o q => s b o q, List.nodup_cons.mpr ⟨fun z => h5 a (List.mem_append_right _ (h3 a z)) na, h2⟩, fun b hb => ?_⟩, fun b hb => ?_, fun b hb => ?_⟩
  · rcases List.mem_cons.mp hb with z | z
    · exact List.mem_cons.mpr (.inl z)
    · exact List.mem_cons_of_mem _ (h3 b z)
  · rcases List.mem_cons.mp hb with z | z
    · exact z ▸ fun q => h5 a (List.mem_append_left _ q) na
    · exact h4 b z
  · rcases List.mem_append.mp hb with z | z
    · exact dom_same s (h5 b (List.mem_append_left _ z))
    · rcases List.mem_cons.mp z with z | z
      · exact z ▸ e
      · exact dom_same s (h5 b (List.mem_append_right _ z))
end

/-- things made; ρ': the slots of what has been given away for it are gone -/
abbrev XGp (X : Cx) (W : WX) (ρ ρ' : List Slot) (t : TE) {R : Type} (ov : R → OV) (m : Res R) : Prop :=
  ∀ (S own : List Addr) (σ : St) (H : Hp) (bs0 : List Addr) (Q : VK), RX X.K S ρ σ H own bs0 → Post m (fun r => ∀ v bs H' own', Gw own H own' H' → RX X.K S ρ' σ H' own' (bs ++ bs0) → Ow X.K (hide (S ++ own') H') H' v (ov r) bs → Q v H') (ErrX X W S own σ H) → t σ H Q
structure XG (X : Cx) (W : WX) (ρ ρ' : List Slot) (e : Expr) {R : Type} (ov : R → OV) (m : Res R) : Prop where
  ex : ∃ t, PE X e t ∧ XGp X W ρ ρ' t ov m
abbrev XAp (X : Cx) (W : WX) (ρ ρ' : List Slot) (t : TA) {R : Type} (ovs : R → List OV) (m : Res R) : Prop :=
  ∀ (S own : List Addr) (σ : St) (H : Hp) (bs0 : List Addr) (Q : List V → Hp → Prop), RX X.K S ρ σ H own bs0 → Post m (fun r => ∀ vs bs H' own', Gw own H own' H' → RX X.K S ρ' σ H' own' (bs ++ bs0) → Ows X.K (hide (S ++ own') H') H' vs (ovs r) bs → Q vs H') (ErrX X W S own σ H) → t σ H Q
structure XA (X : Cx) (W : WX) (ρ ρ' : List Slot) (es : List Expr) {R : Type} (ovs : R → List OV) (m : Res R) : Prop where
  ex : ∃ t, PA X es t ∧ XAp X W ρ ρ' t ovs m
theorem Ows.length {K : PySem.W.Frag} {Hs H : Hp} : ∀ {vs : List V} {os : List OV} {bs : List Addr}, Ows K Hs H vs os bs → vs.length = os.length
  | [], os, _, h => by cases h; rfl
  | _ :: vs, os, _, h => by
    cases h with
    | cons _ t => exact congrArg Nat.succ (Ows.length t)

section
variable {X : Cx} {W : WX} {ρ ρ1 ρ2 : List Slot} {T R R1 R2 : Type} [Rp T] {e : Expr} {es : List Expr} {pos : Pos} {lv : Nat}
theorem x_val {m : Res T} (h : EG X W true ρ e m) : XG X W ρ ρ e (fun x : T => OV.val T x) m := by
  obtain ⟨t, p, q⟩ := h.ex
  exact ⟨t, p, fun S own σ H bs0 Q rx hp => q S own σ H Q rx.to (hp.imp (fun x hx H' v s r => hx v [] H' own (.refl s) (rx.mono s) (.val r)) fun _ z => z)⟩
theorem x_new {m : Res (List T)} (h : FG X W ρ e m) : XG X W ρ ρ e (fun x : List T => OV.lst T x) m := by
  obtain ⟨t, p, q⟩ := h.ex
  refine ⟨t, p, fun S own σ H bs0 Q rx hp => q S own σ H Q rx.to (hp.imp (fun x hx H' a vs s na e1 e2 => hx (.ref a) [a] H' (a :: own) (.cons s na) (rx.more s na (by rw [e1]; intro z; cases z)) (.lst e1 (RpAll.mono (hide_mono fun b hb => ?_) e2))) fun _ z => z)⟩
  rcases List.mem_append.mp hb with z | z
  · exact List.mem_cons_of_mem _ (List.mem_append_left _ z)
  · rcases List.mem_cons.mp z with z | z
    · exact z ▸ List.mem_cons_self
    · exact List.mem_cons_of_mem _ (List.mem_append_right _ z)
/-- a kept list is given away -/
theorem x_mv (i : Nat) {x : Str} {ao : Option Addr} {xs : List T} (hr : ρ[i]? = some (Slot.own T ao xs) := by rfl) (h1 : ρ1 = ρ.set i .non := by rfl) (hN : X.N[i]? = some x := by rfl) (hv : Vis X.env.scope x := by first | exact Or.inl rfl | exact Or.inr (Or.inl rfl) | exact Or.inr (Or.inr rfl))
    (hd : (x == ("__debug__" : Str)) = false := by decide) (hcd : (x == ("__classdict__" : Str)) = false := by decide) : XG X W ρ ρ1 (.Name x pos) (fun x : List T => OV.lst T x) (.ok xs) := by
  refine ⟨_, pe_var hN hv hd hcd, fun S own σ H bs0 Q rx h => ?_⟩
  obtain ⟨⟨ads, h1', h2, h3⟩, h4, h5⟩ := rx
  obtain ⟨a, vs, ads', e1, e2, e3, e4, e5, q⟩ := h1'.take hr
  refine ⟨_, e1, h (.ref a) [a] H own (.refl (Same.refl H)) ⟨⟨ads', h1 ▸ q, ?_, fun b hb => h3 b ?_⟩, h4, h5⟩ (.lst e3 e4)⟩
  · have p : (bs0 ++ ads).Perm (a :: (bs0 ++ ads')) := (e2.append_left bs0).trans List.perm_middle
    exact (p.nodup_iff.mp h2)
  · have p : (bs0 ++ ads).Perm (a :: (bs0 ++ ads')) := (e2.append_left bs0).trans List.perm_middle
    exact p.mem_iff.mpr hb
/-- a kept thing is given away -/
theorem xa_nil : XA X W ρ ρ [] (fun _ : Unit => []) (.ok ()) :=
  ⟨_, pa_nil, fun S own σ H bs0 Q rx h => h [] [] H own (.refl (Same.refl H)) rx .nil⟩
theorem xa_cons {o1 : R1 → OV} {o2 : R2 → List OV} {m1 : Res R1} {m2 : Res R2} (h1 : XG X W ρ ρ1 e o1 m1) (h2 : XA X W ρ1 ρ2 es o2 m2)
    (hs : starEach (e :: es) X.env = (false, eval e X.env) :: starEach es X.env := by rfl) : XA X W ρ ρ2 (e :: es) (fun p : R1 × R2 => o1 p.1 :: o2 p.2) (m1.bind fun a => m2.bind fun b => .ok (a, b)) := by
  obtain ⟨t1, p1, q1⟩ := h1.ex
  obtain ⟨t2, p2, q2⟩ := h2.ex
  refine ⟨_, pa_cons p1 p2 hs, fun S own σ H bs0 Q rx h => ?_⟩
  refine q1 S own σ H bs0 _ rx (h.bind.imp (fun a ha v bs H1 own1 g1 rx1 r1 => ?_) fun _ z => z)
  refine q2 S own1 σ H1 _ _ rx1 (Post.imp ha.bind (fun b hb vs cs H2 own2 g2 rx2 r2 => ?_) fun _ z => z.grow g1)
  refine hb (v :: vs) (bs ++ cs) H2 own2 (g1.trans g2) ?_ (.cons (r1.mono g2.sight fun a _ o e => g2.same a o e) r2)
  obtain ⟨⟨ads, k1, k2, k3⟩, k4, k5⟩ := rx2
  have p : (cs ++ (bs ++ bs0) ++ ads).Perm (bs ++ cs ++ bs0 ++ ads) := by
    refine List.Perm.append_right _ ?_
    rw [← List.append_assoc]
    exact List.Perm.append_right _ List.perm_append_comm
  exact ⟨⟨ads, k1, p.nodup_iff.mp k2, fun a ha => k3 a (p.mem_iff.mpr ha)⟩, k4, k5⟩
theorem x_tup {os : R → List OV} {m : Res R} {x1} (h : XA X W ρ ρ1 es os m) (hz : ∀ r, (os r).length ≤ sizeLine := by intro _; exact Nat.le_of_ble_eq_true rfl) : XG X W ρ ρ1 (.Tuple es x1 pos) (fun r => OV.tup (os r)) m := by
  obtain ⟨t, p, q⟩ := h.ex
  refine ⟨_, pe_tup p, fun S own σ H bs0 Q rx hp => q S own σ H bs0 _ rx (hp.imp (fun r hr vs bs H' own' g rx' o => ⟨by rw [Ows.length o]; exact hz r, fun p np => ?_⟩) fun _ z => z)⟩
  have s2 : Same H' (upd H' p (.tup vs)) := same_upd np
  refine hr _ bs _ own' (g.trans (.refl s2)) (rx'.mono s2) (.tup (.inl (.inl ?_)) (o.mono (hide_same s2) fun a _ o e => s2 a o e))
  rw [hide_out fun z => rx'.dom p z np, upd_same]
theorem x_conv {ov : R → OV} {ov2 : R2 → OV} {f : R → R2} {m : Res R} {m2 : Res R2} (h : XG X W ρ ρ1 e ov m) (hf : ∀ r, ov2 (f r) = ov r := by intro _; rfl) (hm : m2 = m.bind fun r => .ok (f r) := by rfl) : XG X W ρ ρ1 e ov2 m2 := by
  obtain ⟨t, p, q⟩ := h.ex
  subst hm
  refine ⟨t, p, fun S own σ H bs0 Q rx hp => q S own σ H bs0 Q rx (hp.bind.imp (fun r hr v bs H' own' g rx' o => ?_) fun _ z => z)⟩
  exact hr v bs H' own' g rx' (by rw [hf]; exact o)
end

/-! ### defs that hand such things back, their calls -/
def spX (K : PySem.W.Frag) {A R : Type} (ov : R → OV) (as : A → List AV) (f : A → Res R) : Sp := fun vs H Q E => ∃ (S : List Addr) (x : A), (∀ a ∈ S, H a ≠ none) ∧ ArgsR K (hide S H) vs (as x) ∧
  Post (f x) (fun r => ∀ H' v bs, Same H H' → bs.Nodup → (∀ b ∈ bs, H b = none ∧ H' b ≠ none) → Ow K (hide (S ++ bs) H') H' v (ov r) bs → Q v H') (fun e => ∀ H' c d, Same H H' → ExR K (hide S H') c d e → E c d H')
def retX {R : Type} (ov : R → OV) : Rt R := ⟨fun _ => [], fun K S own H v r => ∃ bs, bs.Nodup ∧ (∀ b ∈ bs, b ∈ own) ∧ Ow K (hide (S ++ own) H) H v (ov r) bs⟩
section
variable {X : Cx} {W : WX} {ρe : Option (List Slot)} {ρ ρ1 : List Slot} {R S₁ : Type} {e a : Expr} {es : List Expr} {rest : List Stmt} {pos : Pos} {lv : Nat} {ov : R → OV} {m : Res R}
theorem r_retX (h : XG X W ρ ρ1 e ov m) (w : WkO ρ ρe := by first | exact True.intro | (repeat (first | exact Wk.nil | refine Wk.s ?_ | refine Wk.n ?_))) : SR X W ρe ρ (.Return (some e) pos :: rest) (retX ov) m := by
  obtain ⟨t, p, q⟩ := h.ex
  refine ⟨_, pss_cons (ps_ret p) pss_never, fun S own σ H D rs h => ?_⟩
  refine q S own σ H [] D.rt rs.rx (h.imp (fun r hr v bs H' own' g rx o => hr v [] H' own' g.ext (rs_nil rx.to) ⟨bs, ?_, ?_, o⟩) fun _ z => z.toX rs w)
  · obtain ⟨ads, _, k2, _⟩ := rx.rs
    rw [List.append_nil] at k2
    exact (List.nodup_append.mp k2).1
  · obtain ⟨ads, _, _, k3⟩ := rx.rs
    exact fun b hb => k3 b (List.mem_append_left _ (List.mem_append_left _ hb))
theorem x_call {x : Str} {p : Pos} {A : Type} {as : A → List AV} {f : A → Res R} {k : Nat} (C : CtxOk X W lv) (F : FOk X.prog X.w X.K X.mg X.base x k (spX X.K ov as f)) (ha : AJ X W true ρ (a :: es) as f m) (hk : k ≤ lv := by decide)
    (hg : Gl X x := by rfl) (hdb : (x == ("__debug__" : Str)) = false := by decide) (he : starEach (a :: es) X.env = (false, eval a X.env) :: starEach es X.env := by rfl) (hpl : (backTo pos (starEach es X.env)).any (·.1) = false := by rfl) :
    XG X W ρ ρ (.Call (.Name x p) (a :: es) [] pos) ov m := by
  obtain ⟨t, pa, qa⟩ := ha.ex
  obtain ⟨fd, ps, F1, F2⟩ := F.ok
  refine ⟨_, pe_callS F1 (C.room.mono hk) hg F.gl F.kp F2 (fun σ => L2N.passAt C.tk σ) pa hdb he hpl, fun S own σ H bs0 Q rx h => ?_⟩
  refine qa S own σ H _ _ _ rx.to (fun e z => z) h fun x vs H' s r hx => ⟨S ++ own, x, (rx.to.mono s).dom, r, hx.imp (fun y hy H2 v bs s2 nd hb o => ?_) fun ex z => call_err (g := true) z s rfl⟩
  have fr : ∀ b ∈ bs, H b = none := fun b hb' => s.free (hb b hb').1
  have g : Gw own H (own ++ bs) H2 := ⟨s.trans s2, fun c hc => (List.mem_append.mp hc).imp id (fr c), fun c hc => List.mem_append_left _ hc⟩
  refine hy v bs H2 (own ++ bs) g ?_ (o.mono (Same.refl _) (fun _ _ _ e => e) |> fun z => by rw [← List.append_assoc]; exact z)
  obtain ⟨⟨ads, k1, k2, k3⟩, k4, k5⟩ := rx
  refine ⟨⟨ads, k1.mono g.sight fun c _ o e => g.same c o e, ?_, fun c hc => ?_⟩, fun c hc => ?_, fun c hc => ?_⟩
  · rw [List.append_assoc]
    exact List.nodup_append.mpr ⟨nd, k2, fun c hc d hd z => k5 d (List.mem_append_right _ (k3 d hd)) (fr d (z ▸ hc))⟩
  · rw [List.append_assoc] at hc
    rcases List.mem_append.mp hc with z | z
    · exact List.mem_append_right _ z
    · exact List.mem_append_left _ (k3 c z)
  · rcases List.mem_append.mp hc with z | z
    · exact k4 c z
    · exact fun q => k5 c (List.mem_append_left _ q) (fr c z)
  · rcases List.mem_append.mp hc with z | z
    · exact dom_same g.same (k5 c (List.mem_append_left _ z))
    · rcases List.mem_append.mp z with z | z
      · exact dom_same g.same (k5 c (List.mem_append_right _ z))
      · exact (hb c z).2
end
section
variable {P : Program} {w : World} {K : PySem.W.Frag} {mg : Str → Option Value} {base : Heap} {x qual : Str} {params : Arguments} {body : List Stmt} {scope : Scope} {kws : List (Str × V)} {fd : FuncData} {N ps : List Str} {k : Nat} {A : Type} {as : A → List AV}
theorem fok_x {R : Type} {ov : R → OV} {f : A → Res R} {ρ0 : A → List Slot} (F : FunD K x qual params body scope [] kws (He.ga K x) fd) (hgl : mg x = some (.ref (He.ga K x))) (S : FnScope N ps scope) (hb : Binds K fd ps []) (hl : ∀ u, (as u).length = ps.length := by intro _; rfl)
    (h0 : ∀ u, ρ0 u = (as u).map AV.slot ++ List.replicate (N.length - ps.length) .non := by intro _; rfl)
    (d : ∀ cdv A outer s H E, CtxOk (fcx P w K mg base N qual scope (He.ga K x) cdv A outer s H E) (fun c d _ H' => E c d H') k → ∀ u, SR (fcx P w K mg base N qual scope (He.ga K x) cdv A outer s H E) (fun c d _ H' => E c d H') none (ρ0 u) body (retX ov) (f u)) :
    FOk P w K mg base x (k + 1) (spX K ov as f) := by
  refine ⟨⟨fd, ps, FunD.ok F S (fun vs H Q E h => ?_) (fun cdv A outer s H vs Q E hr h => ?_), hb⟩, F.kp, hgl⟩
  · obtain ⟨S', u, _, r, _⟩ := h
    rw [r.length, hl]
  · obtain ⟨S', u, hd, r, hp⟩ := h
    obtain ⟨t, p, q⟩ := (d cdv A outer s H E (fctx S hr) u).ex
    refine ⟨t, p, q S' [] _ H _ ?_ (hp.imp (fun y hy v σ' H' own' x' rs z => ?_) fun e he σ' H' own' c d x' _ z => he H' c d x'.nil_same (exr_sub (hide_mono fun b hb => List.mem_append_left _ hb) z))⟩
    · rw [h0, ← hl u, ← r.length]
      exact rs_start r hd
    · obtain ⟨bs, nd, hb, o⟩ := z
      refine hy H' v bs x'.nil_same nd (fun b hb' => ⟨(x'.own b (hb b hb')).resolve_left (fun z => nomatch z), rs.dom b (List.mem_append_right _ (hb b hb'))⟩) (o.mono (hide_mono fun b hb' => ?_) fun _ _ _ e => e)
      rcases List.mem_append.mp hb' with z | z
      · exact List.mem_append_left _ z
      · exact List.mem_append_right _ (hb b z)
end
end Py

set_option Elab.async false
set_option linter.all false
set_option maxRecDepth 100000
set_option maxHeartbeats 1000000
/-! Py, part O2: such things kept in variables, unpacked, lent, walked. -/
namespace Py
universe u
open PySem PySem.Spec L2
open Rp (rp)

/-! ### one slot -/
inductive Sl (K : PySem.W.Frag) (Hs H : Hp) : Slot → Option V → List Addr → Prop where
  | non {o : Option V} : Sl K Hs H .non o []
  | val {T : Type} [Rp T] {x : T} {v : V} : rp K Hs v x → Sl K Hs H (.val T x) (some v) []
  | own {T : Type} [Rp T] {ao : Option Addr} {xs : List T} {a : Addr} {vs : List V} : (∀ b, ao = some b → b = a) → H a = some (.lst vs) → RpAll K Hs vs xs → Sl K Hs H (.own T ao xs) (some (.ref a)) [a]
  | ow {o : OV} {v : V} {bs : List Addr} : Ow K Hs H v o bs → Sl K Hs H (.ow o) (some v) bs
theorem Rs.uncons {K : PySem.W.Frag} {Hs H : Hp} {s : Slot} {ρ : List Slot} {σ : St} {as : List Addr} (r : Rs K Hs H (s :: ρ) σ as) : ∃ o σ' bs as', σ = o :: σ' ∧ as = bs ++ as' ∧ Sl K Hs H s o bs ∧ Rs K Hs H ρ σ' as' := by
  cases r with
  | non r => exact ⟨_, _, [], _, rfl, rfl, .non, r⟩
  | val h r => exact ⟨_, _, [], _, rfl, rfl, .val h, r⟩
  | own h0 h1 h2 r => exact ⟨_, _, [_], _, rfl, rfl, .own h0 h1 h2, r⟩
  | ow h r => exact ⟨_, _, _, _, rfl, rfl, .ow h, r⟩
theorem Rs.cons {K : PySem.W.Frag} {Hs H : Hp} {s : Slot} {o : Option V} {bs as : List Addr} {ρ : List Slot} {σ : St} (h : Sl K Hs H s o bs) (r : Rs K Hs H ρ σ as) : Rs K Hs H (s :: ρ) (o :: σ) (bs ++ as) := by
  cases h with
  | non => exact .non r
  | val h => exact .val h r
  | own h0 h1 h2 => exact .own h0 h1 h2 r
  | ow h => exact .ow h r
theorem Rs.repl {K : PySem.W.Frag} {Hs H : Hp} {s : Slot} {o : Option V} {bs : List Addr} (h : Sl K Hs H s o bs) : ∀ {ρ : List Slot} {σ : St} {ads : List Addr}, Rs K Hs H ρ σ ads → (bs ++ ads).Nodup → ∀ i, i < ρ.length →
    ∃ ads', Rs K Hs H (ρ.set i s) (σ.set i o) ads' ∧ ads'.Nodup ∧ ∀ b ∈ ads', b ∈ bs ++ ads
  | [], _, _, _, _, i, hi => absurd hi (Nat.not_lt_zero _)
  | s0 :: ρ, _, _, r, nd, i, hi => by
    obtain ⟨o0, σ', b0, as', rfl, rfl, h0, r'⟩ := r.uncons
    have nd1 := List.nodup_append.mp nd
    have nd2 := List.nodup_append.mp nd1.2.1
    have nd3 : (bs ++ as').Nodup := List.nodup_append.mpr ⟨nd1.1, nd2.2.1, fun x hx y hy => nd1.2.2 x hx y (List.mem_append_right _ hy)⟩
    cases i with
    | zero =>
      refine ⟨bs ++ as', Rs.cons h r', nd3, fun b hb => ?_⟩
      rcases List.mem_append.mp hb with z | z
      · exact List.mem_append_left _ z
      · exact List.mem_append_right _ (List.mem_append_right _ z)
    | succ i =>
      obtain ⟨ads', q1, q2, q3⟩ := Rs.repl h r' nd3 i (Nat.lt_of_succ_lt_succ hi)
      refine ⟨b0 ++ ads', Rs.cons h0 q1, List.nodup_append.mpr ⟨nd2.1, q2, fun x hx y hy => ?_⟩, fun b hb => ?_⟩
      · rcases List.mem_append.mp (q3 y hy) with z | z
        · exact fun w => nd1.2.2 y z x (List.mem_append_left _ hx) w.symm
        · exact nd2.2.2 x hx y z
      · rcases List.mem_append.mp hb with z | z
        · exact List.mem_append_right _ (List.mem_append_left _ z)
        · rcases List.mem_append.mp (q3 b z) with z | z
          · exact List.mem_append_left _ z
          · exact List.mem_append_right _ (List.mem_append_right _ z)
/-- as what it is kept -/
def OV.slot : OV → Slot
  | @OV.val T inst x => @Slot.val T inst x
  | @OV.lst T inst xs => @Slot.own T inst none xs
  | o => .ow o
theorem Ow.slot {K : PySem.W.Frag} {Hs H : Hp} {v : V} {o : OV} {bs : List Addr} (h : Ow K Hs H v o bs) : Sl K Hs H o.slot (some v) bs := by
  cases h with
  | val h => exact .val h
  | lst e h => exact .own (fun _ z => nomatch z) e h
  | tup e h => exact .ow (.tup e h)
  | lol e h => exact .ow (.lol e h)
theorem RX.repl {K : PySem.W.Frag} {S own bs bs0 : List Addr} {ρ : List Slot} {σ : St} {H : Hp} {s : Slot} {o : Option V} (r : RX K S ρ σ H own (bs ++ bs0)) (h : Sl K (hide (S ++ own) H) H s o bs) (i : Nat) (hi : i < ρ.length) : RX K S (ρ.set i s) (σ.set i o) H own bs0 := by
  obtain ⟨⟨ads, h1, h2, h3⟩, h4, h5⟩ := r
  rw [List.append_assoc] at h2 h3
  have n1 := List.nodup_append.mp h2
  have n2 := List.nodup_append.mp n1.2.1
  obtain ⟨ads', q1, q2, q3⟩ := Rs.repl h h1 (List.nodup_append.mpr ⟨n1.1, n2.2.1, fun x hx y hy => n1.2.2 x hx y (List.mem_append_right _ hy)⟩) i hi
  refine ⟨⟨ads', q1, List.nodup_append.mpr ⟨n2.1, q2, fun x hx y hy => ?_⟩, fun a ha => ?_⟩, h4, h5⟩
  · rcases List.mem_append.mp (q3 y hy) with z | z
    · exact fun w => n1.2.2 y z x (List.mem_append_left _ hx) w.symm
    · exact n2.2.2 x hx y z
  · rcases List.mem_append.mp ha with z | z
    · exact h3 a (List.mem_append_right _ (List.mem_append_left _ z))
    · rcases List.mem_append.mp (q3 a z) with z | z
      · exact h3 a (List.mem_append_left _ z)
      · exact h3 a (List.mem_append_right _ (List.mem_append_right _ z))
theorem set_len {α : Type u} {ρ : List α} {i : Nat} {x : α} {j : Nat} (h : j < ρ.length) : j < (ρ.set i x).length := by rw [List.length_set]; exact h

section
variable {X : Cx} {W : WX} {ρe : Option (List Slot)} {ρ ρ1 : List Slot} {R S₁ T : Type} [Rp T] {e a tg : Expr} {es : List Expr} {rest : List Stmt} {pos : Pos} {lv : Nat} {ov : R → OV} {m : Res R}
/-- x = a thing made -/
theorem n_setX (i : Nat) {x : Str} {p2 : Pos} {n3 : R → List Slot} (nd : X.N.Nodup) (h : XG X W ρ ρ1 e ov m) (hn : ∀ v, n3 v = ρ1.set i (ov v).slot := by intro _; rfl) (hl : i < ρ1.length := by exact Nat.le_of_ble_eq_true rfl) (w : WkO ρ ρe := by first | exact True.intro | (repeat (first | exact Wk.nil | refine Wk.s ?_ | refine Wk.n ?_))) (hi : X.N[i]? = some x := by rfl) (hx : Loc X.env.scope x := by first | exact Or.inl rfl | exact Or.inr rfl)
    (hs : swapsWith e (some (.Name x p2)) pos.line X.env = pure false := by rfl) (hf : X.fn x = true ∨ X.env.scope.names.lookup x = some .local := by first | exact .inl rfl | exact .inr rfl | assumption) : N1 X W ρe ρ (.Assign [.Name x p2] e pos) n3 m := by
  obtain ⟨t, p, q⟩ := h.ex
  refine ⟨_, ps_set nd hi hx p hs hf, fun S own σ H D rs h => ?_⟩
  refine q S own σ H [] _ rs.rx (h.imp (fun r hr v bs H' own' g rx o => hr _ H' own' g.ext ?_) fun _ z => z.toX rs w)
  rw [hn]
  exact (RX.repl rx o.slot i hl).to
/-- x, y = a pair made -/
theorem n_unpX (i j : Nat) {x y : Str} {p1 p2 pt : Pos} {k} {o1 o2 : R → OV} {n3 : R → List Slot} (hc : X.calm = true) (nd : X.N.Nodup) (h : XG X W ρ ρ1 e (fun r => .tup [o1 r, o2 r]) m) (hn : ∀ v, n3 v = (ρ1.set i (o1 v).slot).set j (o2 v).slot := by intro _; rfl) (hli : i < ρ1.length := by exact Nat.le_of_ble_eq_true rfl) (hlj : j < ρ1.length := by exact Nat.le_of_ble_eq_true rfl)
    (w : WkO ρ ρe := by first | exact True.intro | (repeat (first | exact Wk.nil | refine Wk.s ?_ | refine Wk.n ?_))) (hi : X.N[i]? = some x := by rfl) (hj : X.N[j]? = some y := by rfl) (hx : Loc X.env.scope x := by first | exact Or.inl rfl | exact Or.inr rfl) (hy : Loc X.env.scope y := by first | exact Or.inl rfl | exact Or.inr rfl)
    (hf : X.fn x = true ∨ X.env.scope.names.lookup x = some .local := by first | exact .inl rfl | exact .inr rfl | assumption) (hg : X.fn y = true ∨ X.env.scope.names.lookup y = some .local := by first | exact .inl rfl | exact .inr rfl | assumption)
    (hl2 : (assignEach [.Name x p1, .Name y p2] X.env).length = 2 := by rfl) (hst : (assignEach [.Name x p1, .Name y p2] X.env).findIdx? (·.1) = none := by rfl) (hs1 : (assignEach [.Name x p1, .Name y p2] X.env).map (·.2) = assign (.Name x p1) X.env :: (assignEach [.Name y p2] X.env).map (·.2) := by rfl) (hs2 : (assignEach [.Name y p2] X.env).map (·.2) = assign (.Name y p2) X.env :: (assignEach [] X.env).map (·.2) := by rfl)
    (hs : swapsWithSole [.Tuple [.Name x p1, .Name y p2] k pt] e pos.line X.env = pure false := by rfl) (hw : swappedStores [.Tuple [.Name x p1, .Name y p2] k pt] e X.env = pure none := by rfl) (h1 : (assignEach [.Tuple [.Name x p1, .Name y p2] k pt] X.env).map (·.2) = [assign (.Tuple [.Name x p1, .Name y p2] k pt) X.env] := by rfl) :
    N1 X W ρe ρ (.Assign [.Tuple [.Name x p1, .Name y p2] k pt] e pos) n3 m := by
  obtain ⟨t, p, q⟩ := h.ex
  refine ⟨_, ps_asg p (pg_tup hc (pgs_cons (pg_name nd hi hx hf) (pgs_cons (pg_name nd hj hy hg) pgs_nil hs2) hs1) hl2 hst) hs hw h1, fun S own σ H D rs h => ?_⟩
  refine q S own σ H [] _ rs.rx (h.imp (fun r hr v bs H' own' g rx o => ?_) fun _ z => z.toX rs w)
  cases o with
  | @tup _ a vs _ et ows =>
    cases ows with
    | @cons v1 _ _ _ b1 _ oa ows =>
      cases ows with
      | @cons v2 _ _ _ b2 _ ob ows =>
        cases ows
        refine ⟨a, _, rfl, SqT.same hide_sub et, rfl, _, _, rfl, ⟨_, _, rfl, rfl, hr _ H' own' g.ext ?_⟩⟩
        rw [hn]
        have rx2 : RX X.K S ρ1 σ H' own' (b1 ++ (b2 ++ [])) := by
          simpa only [List.append_nil, List.append_assoc] using rx
        exact (RX.repl (bs0 := []) (RX.repl rx2 oa.slot i hli) ob.slot j (set_len hlj)).to
/-! ### such a thing lent, as data -/
end
mutual
inductive ShD : OV → PyData → Prop where
  | val {T : Type} [Rp T] [Dat T] (x : T) : ShD (.val T x) (Dat.toD x)
  | lst {T : Type} [Rp T] [Dat T] (xs : List T) : ShD (.lst T xs) (.list (xs.map Dat.toD))
  | tup {os : List OV} {ds : List PyData} : ShDs os ds → ShD (.tup os) (.tuple ds)
  | lol {os : List OV} {ds : List PyData} : ShDs os ds → ShD (.lol os) (.list ds)
inductive ShDs : List OV → List PyData → Prop where
  | nil : ShDs [] []
  | cons {o : OV} {os : List OV} {d : PyData} {ds : List PyData} : ShD o d → ShDs os ds → ShDs (o :: os) (d :: ds)
end
mutual
theorem Ow.dp {K : PySem.W.Frag} {B B' : List Addr} {H : Hp} (hB : ∀ b ∈ B, b ∈ B') {v : V} {o : OV} {bs : List Addr} {d : PyData} (hn : ∀ b ∈ bs, b ∉ B) (h : Ow K (hide B' H) H v o bs) (s : ShD o d) : Dp K (hide B H) v d := by
  cases h with
  | val h => cases s with | val x => exact Dat.dp (Rp.mono (hide_mono hB) h)
  | lst e h => cases s with | lst xs => exact .lst (.inl (.inl (by rw [hide_out (hn _ List.mem_cons_self)]; exact e))) (dpAll_of (RpAll.mono (hide_mono hB) h))
  | tup e h => cases s with | tup s => exact .tup (SqT.same (hide_mono hB) e) (Ows.dp hB hn h s)
  | lol e h => cases s with | lol s => exact .lst (.inl (.inl (by rw [hide_out (hn _ List.mem_cons_self)]; exact e))) (Ows.dp hB (fun b hb => hn b (List.mem_cons_of_mem _ hb)) h s)
theorem Ows.dp {K : PySem.W.Frag} {B B' : List Addr} {H : Hp} (hB : ∀ b ∈ B, b ∈ B') {vs : List V} {os : List OV} {bs : List Addr} {ds : List PyData} (hn : ∀ b ∈ bs, b ∉ B) (h : Ows K (hide B' H) H vs os bs) (s : ShDs os ds) : DpAll K (hide B H) vs ds := by
  cases h with
  | nil => cases s with | nil => exact .nil
  | cons h t => cases s with | cons s r => exact .cons (Ow.dp hB (fun b hb => hn b (List.mem_append_left _ hb)) h s) (Ows.dp hB (fun b hb => hn b (List.mem_append_right _ hb)) t r)
end
theorem Rs.ow_at {K : PySem.W.Frag} {Hs H : Hp} : ∀ {ρ : List Slot} {σ : St} {ads : List Addr}, Rs K Hs H ρ σ ads → ∀ {i : Nat} {o : OV}, ρ[i]? = some (.ow o) → ∃ v bs, σ[i]? = some (some v) ∧ (∀ b ∈ bs, b ∈ ads) ∧ Ow K Hs H v o bs
  | [], _, _, _, _, _, e => by cases e
  | s :: ρ, _, _, r, i, o, e => by
    obtain ⟨o0, σ', b0, as', rfl, rfl, h0, r'⟩ := r.uncons
    cases i with
    | zero =>
      cases e
      cases h0 with
      | ow h => exact ⟨_, _, rfl, fun b hb => List.mem_append_left _ hb, h⟩
    | succ i =>
      obtain ⟨v, bs, e1, e2, e3⟩ := Rs.ow_at r' (i := i) e
      exact ⟨v, bs, e1, fun b hb => List.mem_append_right _ (e2 b hb), e3⟩
section
variable {X : Cx} {W : WX} {ρ : List Slot} {pos : Pos}
theorem e_owD (i : Nat) {x : Str} {o : OV} {d : PyData} (s : ShD o d) (hr : ρ[i]? = some (Slot.ow o) := by rfl) (hN : X.N[i]? = some x := by rfl) (hv : Vis X.env.scope x := by first | exact Or.inl rfl | exact Or.inr (Or.inl rfl) | exact Or.inr (Or.inr rfl))
    (hd : (x == ("__debug__" : Str)) = false := by decide) (hcd : (x == ("__classdict__" : Str)) = false := by decide) : EG X W false ρ (.Name x pos) (.ok (PD.mk d)) := by
  refine ⟨_, pe_var hN hv hd hcd, fun S own σ H Q rs h => ?_⟩
  obtain ⟨ads, r, _, h3⟩ := rs.rs
  obtain ⟨v, bs, e1, e2, e3⟩ := r.ow_at hr
  exact ⟨v, e1, h H v (Same.refl H) (Ow.dp (fun b hb => List.mem_append_left _ hb) (fun b hb => rs.out b (h3 b (e2 b hb))) e3 s)⟩
end
end Py

set_option Elab.async false
set_option linter.all false
set_option maxRecDepth 100000
set_option maxHeartbeats 1000000
/-! Py, part O3: a for over the parts of a thing of one's own, each given away to the block. -/
namespace Py
open PySem PySem.Spec L2
open Rp (rp)
/-- a value as it stands -/
structure Raw where
  v : V
instance : Rp Raw where
  rp _ _ v x := v = x.v
  mono _ h := h
theorem raws {K : PySem.W.Frag} {H : Hp} : ∀ vs : List V, RpAll K H vs (vs.map Raw.mk)
  | [] => .nil
  | v :: vs => .cons rfl (raws vs)
theorem Rs.takeOw {K : PySem.W.Frag} {Hs H : Hp} : ∀ {ρ : List Slot} {σ : St} {ads : List Addr}, Rs K Hs H ρ σ ads → ∀ {i : Nat} {o : OV}, ρ[i]? = some (.ow o) → ∃ v bs ads', σ[i]? = some (some v) ∧ ads.Perm (bs ++ ads') ∧ Ow K Hs H v o bs ∧ Rs K Hs H (ρ.set i .non) σ ads'
  | [], _, _, _, _, _, e => by cases e
  | s :: ρ, _, _, r, i, o, e => by
    obtain ⟨o0, σ', b0, as', rfl, rfl, h0, r'⟩ := r.uncons
    cases i with
    | zero =>
      cases e
      cases h0 with
      | ow h => exact ⟨_, _, _, rfl, List.Perm.refl _, h, .non r'⟩
    | succ i =>
      obtain ⟨v, bs, ads', e1, e2, e3, e4⟩ := Rs.takeOw r' (i := i) e
      refine ⟨v, bs, b0 ++ ads', e1, (e2.append_left b0).trans ?_, e3, Rs.cons h0 e4⟩
      rw [← List.append_assoc, ← List.append_assoc]
      exact List.Perm.append_right _ List.perm_append_comm
theorem Ows.drop {K : PySem.W.Frag} {Hs H : Hp} : ∀ {vs : List V} {os : List OV} {bs : List Addr} (k : Nat), Ows K Hs H vs os bs → ∃ bs', Ows K Hs H (vs.drop k) (os.drop k) bs' ∧ bs'.Sublist bs
  | vs, os, bs, 0, h => ⟨bs, h, List.Sublist.refl _⟩
  | _, _, _, k + 1, h => by
    cases h with
    | nil => exact ⟨[], .nil, List.Sublist.refl _⟩
    | cons h t =>
      obtain ⟨bs', q1, q2⟩ := Ows.drop k t
      exact ⟨bs', q1, q2.trans (List.sublist_append_right _ _)⟩
section
variable {K : PySem.W.Frag} {S own own' bs bs' : List Addr} {ρ ρ' : List Slot} {σ : St} {H H' : Hp}
theorem RX.sub (r : RX K S ρ σ H own bs) (s : bs'.Sublist bs) : RX K S ρ σ H own bs' := by
  obtain ⟨⟨ads, h1, h2, h3⟩, h4, h5⟩ := r
  exact ⟨⟨ads, h1, h2.sublist (s.append (List.Sublist.refl _)), fun a ha => h3 a ((s.append (List.Sublist.refl _)).subset ha)⟩, h4, h5⟩
theorem RX.wk (w : Wk ρ ρ') (r : RX K S ρ σ H own bs) : RX K S ρ' σ H own bs := by
  obtain ⟨⟨ads, h1, h2, h3⟩, h4, h5⟩ := r
  obtain ⟨ads', q1, q2⟩ := h1.wk w
  have s := (List.Sublist.refl bs).append q2
  exact ⟨⟨ads', q1, h2.sublist s, fun a ha => h3 a (s.subset ha)⟩, h4, h5⟩
/-- what is taken is kept by the one who called -/
def less (own bs : List Addr) : List Addr := own.filter fun a => decide (a ∉ bs)
theorem mem_less {a : Addr} : a ∈ less own bs ↔ a ∈ own ∧ a ∉ bs := by
  unfold less
  rw [List.mem_filter, decide_eq_true_eq]
theorem RX.frame (r : RX K S ρ σ H own bs) : RS K (S ++ bs) ρ σ H (less own bs) := by
  obtain ⟨⟨ads, h1, h2, h3⟩, h4, h5⟩ := r
  have n := List.nodup_append.mp h2
  have hm : ∀ c, c ∈ S ++ own ↔ c ∈ (S ++ bs) ++ less own bs := fun c => by
    constructor
    · intro h
      rcases List.mem_append.mp h with z | z
      · exact List.mem_append_left _ (List.mem_append_left _ z)
      · by_cases hc : c ∈ bs
        · exact List.mem_append_left _ (List.mem_append_right _ hc)
        · exact List.mem_append_right _ (mem_less.mpr ⟨z, hc⟩)
    · intro h
      rcases List.mem_append.mp h with z | z
      · rcases List.mem_append.mp z with z | z
        · exact List.mem_append_left _ z
        · exact List.mem_append_right _ (h3 c (List.mem_append_left _ z))
      · exact List.mem_append_right _ (mem_less.mp z).1
  refine ⟨⟨ads, hide_congr (H := H) hm ▸ h1, n.2.1, fun a ha => mem_less.mpr ⟨h3 a (List.mem_append_right _ ha), fun z => n.2.2 a z a ha rfl⟩⟩, fun a ha z => ?_, fun a ha => h5 a ((hm a).mpr ha)⟩
  rcases List.mem_append.mp z with z | z
  · exact h4 a (mem_less.mp ha).1 z
  · exact (mem_less.mp ha).2 z
theorem RS.unframe (r : RS K (S ++ bs) ρ σ H own) (nd : bs.Nodup) (hS : ∀ b ∈ bs, b ∉ S) : RX K S ρ σ H (own ++ bs) bs := by
  obtain ⟨⟨ads, h1, h2, h3⟩, h4, h5⟩ := r
  have hm : ∀ c, c ∈ (S ++ bs) ++ own ↔ c ∈ S ++ (own ++ bs) := fun c => by
    simp only [List.mem_append]
    constructor <;> intro h <;> rcases h with h | h
    · rcases h with h | h
      · exact .inl h
      · exact .inr (.inr h)
    · exact .inr (.inl h)
    · exact .inl (.inl h)
    · rcases h with h | h
      · exact .inr h
      · exact .inl (.inr h)
  refine ⟨⟨ads, hide_congr (H := H) hm ▸ h1, List.nodup_append.mpr ⟨nd, h2, fun x hx y hy z => h4 y (h3 y hy) (List.mem_append_right _ (z ▸ hx))⟩, fun a ha => ?_⟩, fun a ha => ?_, fun a ha => h5 a ((hm a).mpr ha)⟩
  · rcases List.mem_append.mp ha with z | z
    · exact List.mem_append_right _ z
    · exact List.mem_append_left _ (h3 a z)
  · rcases List.mem_append.mp ha with z | z
    · exact fun q => h4 a z (List.mem_append_left _ q)
    · exact hS a z
end
section
variable {X : Cx} {W : WX} {ρe : Option (List Slot)} {ρ : List Slot} {S₁ E : Type} {iter : Expr} {pos : Pos} {lv : Nat}
theorem n_forX (i j : Nat) {y : Str} {py : Pos} {body : List Stmt} {os : List OV} {ov : E → OV} {xs : List E} (k : Nat) {ρl : S₁ → List Slot} {f : S₁ → E → Res S₁} {s0 : S₁} (C : CtxOk X W lv) (hr : ρ[i]? = some (.ow (.tup os))) (hos : os.drop k = xs.map ov)
    (hi : ∀ x : Tup Raw, x.l.length = os.length → IJ X W (ρ.set i (.val (Tup Raw) x)) (.Name y py) iter (.ok (x.l.drop k))) (h0 : Wk (ρ.set i .non) (ρl s0)) (hb : ∀ s x, SN X W ρe ((ρl s).set j (ov x).slot) body ρl (f s x)) (hlj : ∀ s, j < (ρl s).length)
    (hj : X.N[j]? = some y := by rfl) (hy : Loc X.env.scope y := by first | exact Or.inl rfl | exact Or.inr rfl) (hf : X.fn y = true ∨ X.env.scope.names.lookup y = some .local := by first | exact .inl rfl | exact .inr rfl | assumption)
    (hs : ∀ x, foldedSetIterable iter X.env x = pure x := by intro _; rfl) : N1 X W ρe ρ (.For (.Name y py) iter body [] pos) ρl (forR f xs s0).quiet := by
  have hw : ∃ wi : TI, PI X (.Name y py) iter wi ∧ ∀ (x : Tup Raw), x.l.length = os.length → IJp X W (ρ.set i (.val (Tup Raw) x)) wi (.ok (x.l.drop k)) := by
    refine ⟨fun σ H R => ∃ wx, PI X (.Name y py) iter wx ∧ wx σ H R, ⟨fun pins s σ H R I h => ?_⟩, fun x hx S own σ H R rs h => ?_⟩
    · obtain ⟨wx, p, q⟩ := h
      exact p.run pins s σ H R I q
    · obtain ⟨wx, p, q⟩ := (hi x hx).ex
      exact ⟨wx, p, q S own σ H R rs h⟩
  have hx : ∃ tb : TS, PSs X body tb ∧ ∀ s x, SNp X W ρe ((ρl s).set j (ov x).slot) tb ρl (f s x) := by
    refine ⟨fun D σ H => ∃ s x, (∃ tb, PSs X body tb ∧ SNp X W ρe ((ρl s).set j (ov x).slot) tb ρl (f s x)) ∧ ∃ S own, RS X.K S ((ρl s).set j (ov x).slot) σ H own ∧ Post (f s x) (NxP X.K S own H D.nx ρl) (ErrS X.K W S own H ρe), ⟨fun pins s σ H D I h => ?_⟩, fun s x S own σ H D rs h => ⟨s, x, (hb s x).ex, S, own, rs, h⟩⟩
    obtain ⟨s, x, ⟨tb, p, q⟩, S, own, rs, h⟩ := h
    exact p.run pins _ σ H D I (q S own σ H D rs h)
  obtain ⟨wi, pi, qi⟩ := hw
  obtain ⟨tb, pb, qb⟩ := hx
  refine ⟨_, ps_for C.po C.calm pi (pg_name C.nd hj hy hf) pb hs, fun S own σ H D rs h => ?_⟩
  have hq := Post.quiet (E' := fun _ => False) h
  obtain ⟨⟨ads, r1, r2, r3⟩, r4, r5⟩ := rs
  obtain ⟨v, bs, ads', e1, e2, e3, e4⟩ := r1.takeOw hr
  cases e3 with
  | @tup _ a vs _ et ows =>
    have rx0 : RX X.K S (ρ.set i .non) σ H own bs := ⟨⟨ads', e4, e2.nodup_iff.mp r2, fun a ha => r3 a (e2.mem_iff.mpr ha)⟩, r4, r5⟩
    have hl : (vs.map Raw.mk).length = os.length := by rw [List.length_map]; exact Ows.length ows
    have rs1 : RS X.K S (ρ.set i (.val (Tup Raw) ⟨vs.map Raw.mk⟩)) σ H own := by
      have q := rx0.to.set (T := Tup Raw) (v := .ref a) (x := ⟨vs.map Raw.mk⟩) (show rp X.K (hide (S ++ own) H) (V.ref a) (⟨vs.map Raw.mk⟩ : Tup Raw) from ⟨a, vs, rfl, et, raws vs⟩) i
      rw [List.set_set] at q
      have z : σ.set i (some (.ref a)) = σ := by
        apply List.ext_getElem?
        intro n
        by_cases hn : i = n
        · subst hn
          rw [List.getElem?_set_self (List.getElem?_eq_some_iff.mp e1).1, e1]
        · rw [List.getElem?_set_ne hn]
      rw [z] at q
      exact q
    refine qi ⟨vs.map Raw.mk⟩ hl S own σ H _ rs1 fun J H1 s1 wj => ?_
    obtain ⟨bs1, ows1, sb⟩ := ows.drop k
    rw [hos] at ows1
    have len : ((vs.map Raw.mk).drop k).length = xs.length := by
      have := Ows.length ows1
      rw [List.length_map] at this
      rw [← this, List.length_drop, List.length_drop, List.length_map]
    refine ⟨fun n c σ' H' => n + c = xs.length ∧ ∃ s own' bs', Ext own H1 own' H' ∧ RX X.K S (ρl s) σ' H' own' bs' ∧ Ows X.K (hide (S ++ own') H') H' ((vs.drop k).drop n) ((xs.drop n).map ov) bs' ∧ Post (forR f (xs.drop n) s) (NxP X.K S own H D.nx ρl) (fun _ => False),
      ⟨xs.length, Nat.zero_add _, s0, own, bs1, Ext.refl, ((rx0.mono s1).sub sb).wk h0, ows1.mono (hide_same s1) (fun a _ o e => s1 a o e), hq⟩, fun n c σ' H' hW => ?_⟩
    obtain ⟨ek, s, own', bs', x1, rx, ows', hp⟩ := hW
    have sight : Same (hide (S ++ own) H1) (hide (S ++ own') H') := x1.sight fun _ _ _ => trivial
    by_cases hn : n < xs.length
    · refine .inr ⟨wj.goes n H' (by rw [len]; exact hn) (sight.trans hide_sub), fun σ2 H2 => ∃ s' own2 bs2, Ext own H1 own2 H2 ∧ RX X.K S (ρl s') σ2 H2 own2 bs2 ∧ Ows X.K (hide (S ++ own2) H2) H2 ((vs.drop k).drop (n + 1)) ((xs.drop (n + 1)).map ov) bs2 ∧ Post (forR f (xs.drop (n + 1)) s') (NxP X.K S own H D.nx ρl) (fun _ => False), fun σ2 H2 hN => ?_, fun v H2 hy2 => ?_⟩
      · obtain ⟨s', own2, bs2, q⟩ := hN
        exact ⟨c - 1, by omega, by omega, s', own2, bs2, q⟩
      · have hv : n < (vs.drop k).length := by
          rw [List.length_drop, List.length_map] at len
          rw [List.length_drop, len]; exact hn
        have ev : ((vs.map Raw.mk).drop k)[n]? = some (Raw.mk (vs.drop k)[n]) := by
          rw [← List.map_drop, List.getElem?_map, List.getElem?_eq_getElem hv]
          rfl
        obtain ⟨s2, rv⟩ := wj.yields n H' v H2 _ (S ++ own') ev sight rx.to.dom hy2
        have rv : v = (vs.drop k)[n] := rv
        rw [List.drop_eq_getElem_cons hv, List.drop_eq_getElem_cons hn, List.map_cons] at ows'
        rw [List.drop_eq_getElem_cons hn] at hp
        cases ows' with
        | @cons _ _ _ _ b1 b2 oh ot =>
          have rx2 := RX.repl (rx.mono s2) (i := j) (Ow.slot (oh.mono (hide_same s2) fun a _ o e => s2 a o e)) (hlj s)
          have nd2 : b2.Nodup := by
            obtain ⟨ads2, _, q, _⟩ := rx2.rs
            exact (List.nodup_append.mp q).1
          have in2 : ∀ b ∈ b2, b ∈ own' := by
            obtain ⟨ads2, _, _, q⟩ := rx2.rs
            exact fun b hb => q b (List.mem_append_left _ hb)
          have hS : ∀ b ∈ b2, b ∉ S := fun b hb => rx.out b (in2 b hb)
          show tb _ (σ'.set j (some v)) H2
          rw [rv]
          refine qb s xs[n] (S ++ b2) (less own' b2) _ H2 _ rx2.frame ?_
          refine (show Post ((f s xs[n]).bind fun s' => forR f (xs.drop (n + 1)) s') _ _ from hp).bind.imp (fun s' hs' σ4 H4 own4 x4 rs4 => ?_) fun _ z => z.elim
          have xx : Ext own' H2 (own4 ++ b2) H4 := ⟨fun b o e hb => x4.same b o e (fun z => hb (mem_less.mp z).1), x4.dom, fun b hb => by
            rcases List.mem_append.mp hb with z | z
            · exact (x4.own b z).imp (fun z => (mem_less.mp z).1) id
            · exact .inl (in2 b z)⟩
          have xy : Ext own' H' (own4 ++ b2) H4 := (Ext.of_same s2).trans xx
          refine ⟨s', own4 ++ b2, b2, x1.trans xy, rs4.unframe nd2 hS, ot.mono (xy.sight fun _ _ _ => trivial) fun b hb o e => x4.same b o (s2 b o e) fun z => (mem_less.mp z).2 hb, hs'⟩
    · refine .inl ⟨?_, ?_⟩
      · have e1 : n = ((vs.map Raw.mk).drop k).length := by rw [len]; omega
        rw [e1]
        exact wj.stops H' (sight.trans hide_sub)
      · have e0 : xs.drop n = [] := List.drop_eq_nil_of_le (by omega)
        rw [e0] at hp
        have x2 : Ext own H own' H' := (Ext.of_same s1).trans x1
        exact hp σ' H' own' x2 rx.to
end
end Py

set_option Elab.async false
set_option linter.all false
set_option maxRecDepth 100000
set_option maxHeartbeats 1000000
/-! Py, part O4: data walked, as tuples, without lists; lent calls whose answer is kept; slices of tuples. -/
namespace Py
open PySem PySem.Spec L2
open Rp (rp)
theorem dpAll_rp {K : PySem.W.Frag} {H : Hp} : ∀ {vs : List V} {ds : List PyData}, DpAll K H vs ds → RpAll K H vs (ds.map PD.mk)
  | _, _, .nil => .nil
  | _, _, .cons r t => .cons r (dpAll_rp t)
theorem dpAll_of' {K : PySem.W.Frag} {H : Hp} : ∀ {vs : List V} {xs : List PD}, RpAll K H vs xs → DpAll K H vs (xs.map PD.d)
  | _, _, .nil => .nil
  | _, _, .cons r t => .cons r (dpAll_of' t)
def itD : PD → Res (List PD)
  | ⟨.list ds⟩ => .ok (ds.map PD.mk)
  | ⟨.tuple ds⟩ => .ok (ds.map PD.mk)
  | _ => .bad
def tupD : PD → Res PD
  | ⟨.list ds⟩ => .ok ⟨.tuple ds⟩
  | ⟨.tuple ds⟩ => .ok ⟨.tuple ds⟩
  | _ => .bad
/-- what can be shown as data -/
class ToD (T : Type) [Rp T] where
  toD : T → PyData
  dp : ∀ {K : PySem.W.Frag} {H : Hp} {v : V} {x : T}, rp K H v x → Dp K H v (toD x)
instance (priority := low) {T : Type} [Rp T] [Dat T] : ToD T := ⟨Dat.toD, Dat.dp⟩
instance : ToD PD := ⟨PD.d, fun h => h⟩
theorem dpAll_toD {T : Type} [Rp T] [ToD T] {K : PySem.W.Frag} {H : Hp} : ∀ {vs : List V} {xs : List T}, RpAll K H vs xs → DpAll K H vs (xs.map ToD.toD)
  | _, _, .nil => .nil
  | _, _, .cons r t => .cons (ToD.dp r) (dpAll_toD t)
instance {T : Type} [Rp T] [ToD T] : ToD (List T) := ⟨fun xs => .list (xs.map ToD.toD), fun h => by
  obtain ⟨a, vs, rfl, e1, e2⟩ := h
  exact .lst (.inl (.inl e1)) (dpAll_toD e2)⟩
instance {T : Type} [Rp T] [ToD T] : ToD (Tup T) := ⟨fun xs => .tuple (xs.l.map ToD.toD), fun h => by
  obtain ⟨a, vs, rfl, e1, e2⟩ := h
  exact .tup e1 (dpAll_toD e2)⟩
instance {A B : Type} [Rp A] [Rp B] [ToD A] [ToD B] : ToD (A × B) := ⟨fun p => .tuple [ToD.toD p.1, ToD.toD p.2], fun h => by
  obtain ⟨a, vs, rfl, e1, r⟩ := h
  cases r with
  | cons r1 r =>
    cases r with
    | cons r2 r =>
      cases r
      exact .tup e1 (.cons (ToD.dp r1) (.cons (ToD.dp r2) .nil))⟩
mutual
def noL : PyData → Bool
  | .list _ => false
  | .dict _ => false
  | .tuple ds => noLs ds
  | _ => true
def noLs : List PyData → Bool
  | [] => true
  | d :: ds => noL d && noLs ds
end
theorem hide_lists {K : PySem.W.Frag} {B B' : List Addr} {H : Hp} (hB : ∀ b ∈ B', b ∉ B → ∃ ws, H b = some (.lst ws)) {a : Addr} {vs : List V} (h : SqT K (hide B H) a vs) : SqT K (hide B' H) a vs := by
  have key : ∀ o, (∀ ws, o ≠ HO.lst ws) → hide B H a = some o → hide B' H a = some o := fun o ho e => by
    obtain ⟨n, e'⟩ := hide_some e
    rw [hide_out fun z => ?_]
    · exact e'
    · obtain ⟨ws, e2⟩ := hB a z n
      rw [e2] at e'
      cases e'
      exact ho ws rfl
  rcases h with (h | ⟨o, h⟩) | h
  · exact .inl (.inl (key _ (fun _ z => nomatch z) h))
  · exact .inl (.inr ⟨o, key _ (fun _ z => nomatch z) h⟩)
  · exact .inr h
mutual
theorem dp_noL {K : PySem.W.Frag} {B B' : List Addr} {H : Hp} (hB : ∀ b ∈ B', b ∉ B → ∃ ws, H b = some (.lst ws)) : ∀ {v : V} (d : PyData), noL d = true → Dp K (hide B H) v d → Dp K (hide B' H) v d
  | _, .list _, n, h => by simp only [noL] at n; cases n
  | _, .dict _, n, h => by simp only [noL] at n; cases n
  | _, .tuple ds, n, h => by
    cases h with
    | tup e r => exact .tup (hide_lists hB e) (dpAll_noL hB ds (by simpa only [noL] using n) r)
  | _, .none, n, h => by cases h; exact .non
  | _, .bool _, n, h => by cases h; exact .bl _
  | _, .int _, n, h => by cases h; exact .int _
  | _, .str _, n, h => by cases h; exact .str _
theorem dpAll_noL {K : PySem.W.Frag} {B B' : List Addr} {H : Hp} (hB : ∀ b ∈ B', b ∉ B → ∃ ws, H b = some (.lst ws)) : ∀ {vs : List V} (ds : List PyData), noLs ds = true → DpAll K (hide B H) vs ds → DpAll K (hide B' H) vs ds
  | _, [], n, h => by cases h; exact .nil
  | _, d :: ds, n, h => by
    have n := (Bool.and_eq_true_iff.mp (show (noL d && noLs ds) = true by simpa only [noLs] using n))
    cases h with
    | cons r t => exact .cons (dp_noL hB d n.1 r) (dpAll_noL hB ds n.2 t)
end
section
variable {S₁ T : Type} [Rp T] {X : Cx} {W : WX} {g : Bool} {ρe : Option (List Slot)} {ρ : List Slot} {a b e tg : Expr} {es : List Expr} {pos : Pos} {lv : Nat}
theorem e_toD' [ToD T] {m : Res T} (h : EG X W g ρ e m) : EG X W g ρ e (m.bind fun x => .ok (PD.mk (ToD.toD x))) := by
  obtain ⟨t, p, q⟩ := h.ex
  exact ⟨t, p, fun S own σ H Q rs hp => q S own σ H Q rs (hp.bind.imp (fun x hx H' v s r => hx H' v s (ToD.dp r)) fun _ z => z)⟩
theorem e_toDp' [ToD T] {x : T} (h : EG X W g ρ e (.ok x)) : EG X W g ρ e (.ok (PD.mk (ToD.toD x))) := e_toD' h
theorem e_eqvG {ga gb : Bool} {m n : Res PD} (C : CtxOk X W lv) (h : EG X W ga ρ a m) (h2 : EG X W gb ρ b n) : CJ X W ρ .Eq a b (m.bind fun x => n.bind fun y => eqvD x y) :=
  e_cmpR (f := eqvD) (op_eqD C.room.units) (nomark _) h h2 (fun _ _ H x y v u Q r1 r2 hq => by
    obtain ⟨h1, hq⟩ := hq.guard
    rw [Bool.and_eq_true] at h1
    exact ⟨_, _, dp_same hide_sub r1, dp_same hide_sub r2, h1.1, h1.2, hq⟩)
theorem i_D {m : Res PD} (h : EG X W true ρ e m) : IJ X W ρ tg e (m.bind itD) := by
  cases m with
  | bad => exact i_tup (m := (.bad : Res (Tup PD))) h.asB
  | err z => exact i_tup (m := (.err z : Res (Tup PD))) h.asE
  | ok x =>
    obtain ⟨d⟩ := x
    cases d with
    | tuple ds =>
      refine i_tup (m := .ok (Tup.mk (ds.map PD.mk))) (h.as fun K H v r => ?_)
      cases r with
      | tup e1 e2 => exact ⟨_, _, rfl, e1, dpAll_rp e2⟩
    | list ds =>
      obtain ⟨t, p, q⟩ := h.ex
      refine ⟨_, pi_list p, fun S own σ H R rs hp => q S own σ H _ rs fun H' v s r => ?_⟩
      have hp : ∀ J H', Same H H' → WJ X.K (S ++ own) H' J (ds.map PD.mk) → R J H' := hp
      cases r with
      | @lst a vs _ e1 e2' =>
        have e2 := dpAll_rp e2'
        have there : ∀ H2, Same (hide (S ++ own) H') H2 → SqL X.K H2 a vs := fun H2 s2 => s2.seq e1
        refine ⟨a, rfl, ⟨vs, hide_sub.seq e1⟩, hp _ H' s ⟨fun i H2 hi s2 => ?_, fun H2 s2 => ⟨vs, there H2 s2, by rw [e2.length]; exact Nat.le_refl _⟩, fun i H2 v H3 x B2 ei s2 hd hy => ?_⟩⟩
        · have h2 : i < vs.length := by rw [e2.length]; exact hi
          exact ⟨vs, vs[i], there H2 s2, List.getElem?_eq_getElem h2⟩
        · obtain ⟨rfl, f⟩ := hy
          obtain ⟨v', e3, r3⟩ := e2.get ei
          have e4 := f vs (there _ (s2.trans hide_sub))
          rw [e3] at e4
          cases e4
          exact ⟨Same.refl _, Rp.mono s2 r3⟩
    | _ => exact i_tup (m := (.bad : Res (Tup PD))) (by
        obtain ⟨t, p, q⟩ := h.ex
        exact ⟨t, p, fun S own σ H Q rs hp => hp.elim⟩)
theorem e_tupofD {p : Pos} {m : Res PD} (ha : EG X W true ρ a m) (hm : X.mg "tuple" = none) (hg : Gl X "tuple" := by rfl)
    (he : starEach [a] X.env = (false, eval a X.env) :: starEach [] X.env := by rfl) (hpl : (backTo pos (starEach [] X.env)).any (·.1) = false := by rfl) : EG X W g ρ (.Call (.Name "tuple" p) [a] [] pos) (m.bind tupD) := by
  obtain ⟨ta, pa, qa⟩ := ha.ex
  refine ⟨_, pe_callTy call_tuple_of hg hm (by decide +kernel) (pa_cons pa pa_nil he) (by decide) (by decide) he hpl, fun S own σ H Q rs h => one_run (R' := fun v H2 => ∃ p ys, [v] = [V.ref p] ∧ ((SqL X.K H2 p ys ∧ ∀ l, H2 l = none → Q (.ref l) (upd H2 l (.tup ys))) ∨ (SqT X.K H2 p ys ∧ Q (.ref p) H2))) qa rs h fun x v H2 s r1 hp => ?_⟩
  obtain ⟨d⟩ := x
  cases r1 with
  | @lst a vs ds r1 r2 =>
    refine ⟨a, vs, rfl, .inl ⟨hide_sub.seq r1, fun l nl => ?_⟩⟩
    have hp : ∀ H' v, Same H H' → Dp X.K (hide (reg g S own) H') v (.tuple ds) → Q v H' := hp
    refine hp _ (.ref l) (s.trans (same_upd nl)) (.tup (.inl (.inl ?_)) (dpAll_same (hide_same (same_upd nl)) (dpAll_same (hide_mono reg_sub) r2)))
    rw [hide_out fun z => (rs.mono s).dom l (reg_sub l z) nl, upd_same]
  | @tup a vs ds r1 r2 =>
    have hp : ∀ H' v, Same H H' → Dp X.K (hide (reg g S own) H') v (.tuple ds) → Q v H' := hp
    exact ⟨a, vs, rfl, .inr ⟨SqT.same hide_sub r1, hp _ _ s (.tup (SqT.same (hide_mono reg_sub) r1) (dpAll_same (hide_mono reg_sub) r2))⟩⟩
  | _ => exact hp.elim
mutual
theorem Ow.lists {K : PySem.W.Frag} {Hs H : Hp} {v : V} {o : OV} {bs : List Addr} (h : Ow K Hs H v o bs) : ∀ b ∈ bs, ∃ ws, H b = some (.lst ws) := by
  cases h with
  | val h => exact fun b hb => absurd hb List.not_mem_nil
  | lst e h => exact fun b hb => ⟨_, List.mem_singleton.mp hb ▸ e⟩
  | tup e h => exact Ows.lists h
  | lol e h => exact fun b hb => (List.mem_cons.mp hb).elim (fun z => ⟨_, z ▸ e⟩) (Ows.lists h b)
theorem Ows.lists {K : PySem.W.Frag} {Hs H : Hp} {vs : List V} {os : List OV} {bs : List Addr} (h : Ows K Hs H vs os bs) : ∀ b ∈ bs, ∃ ws, H b = some (.lst ws) := by
  cases h with
  | nil => exact fun b hb => absurd hb List.not_mem_nil
  | cons h t => exact fun b hb => (List.mem_append.mp hb).elim (Ow.lists h b) (Ows.lists t b)
end
theorem Rs.lists {K : PySem.W.Frag} {Hs H : Hp} : ∀ {ρ : List Slot} {σ : St} {ads : List Addr}, Rs K Hs H ρ σ ads → ∀ b ∈ ads, ∃ ws, H b = some (.lst ws)
  | [], _, _, r => by cases r; exact fun b hb => absurd hb List.not_mem_nil
  | s :: ρ, _, _, r => by
    obtain ⟨o0, σ', b0, as', rfl, rfl, h0, r'⟩ := r.uncons
    refine fun b hb => (List.mem_append.mp hb).elim (fun z => ?_) (Rs.lists r' b)
    cases h0 with
    | non => cases z
    | val _ => cases z
    | own _ e _ => exact ⟨_, List.mem_singleton.mp z ▸ e⟩
    | ow h => exact h.lists b z
/-- only what the slots keep is kept -/
theorem RS.trim {K : PySem.W.Frag} {S own : List Addr} {σ : St} {H : Hp} (rs : RS K S ρ σ H own) : ∃ own', RS K S ρ σ H own' ∧ (∀ a ∈ own', a ∈ own) ∧ ∀ b ∈ own', ∃ ws, H b = some (.lst ws) := by
  obtain ⟨⟨ads, h1, h2, h3⟩, h4, h5⟩ := rs
  have hs : ∀ b, b ∈ S ++ ads → b ∈ S ++ own := fun b hb => (List.mem_append.mp hb).elim (fun z => List.mem_append_left _ z) fun z => List.mem_append_right _ (h3 b z)
  exact ⟨ads, ⟨⟨ads, h1.mono (hide_mono hs) fun _ _ _ e => e, h2, fun _ h => h⟩, fun a ha => h4 a (h3 a ha), fun a ha => h5 a (hs a ha)⟩, h3, h1.lists⟩
/-- f(..) over what is lent; what it hands back has no lists in it -/
theorem n_setFb (i : Nat) {x y : Str} {p p2 : Pos} {A : Type} {as : A → List AV} {f : A → Res (List PD)} {m : Res (List PD)} {k : Nat} {n3 : List PD → List Slot} (C : CtxOk X W lv) (F : FOk X.prog X.w X.K X.mg X.base y k (spFr X.K as f)) (ha : AJ X W false ρ (a :: es) as (fun x => (f x).quiet) m) (hk : k ≤ lv := by decide)
    (hn : ∀ v, n3 v = ρ.set i (.own PD none v) := by intro _; rfl) (hli : i < ρ.length := by exact Nat.le_of_ble_eq_true rfl) (hi : X.N[i]? = some x := by rfl) (hx : Loc X.env.scope x := by first | exact Or.inl rfl | exact Or.inr rfl)
    (hg : Gl X y := by rfl) (hdb : (y == ("__debug__" : Str)) = false := by decide) (he : starEach (a :: es) X.env = (false, eval a X.env) :: starEach es X.env := by rfl) (hpl : (backTo pos (starEach es X.env)).any (·.1) = false := by rfl)
    (hs : swapsWith (.Call (.Name y p) (a :: es) [] pos) (some (.Name x p2)) pos.line X.env = pure false := by rfl) (hf : X.fn x = true ∨ X.env.scope.names.lookup x = some .local := by first | exact .inl rfl | exact .inr rfl | assumption) :
    N1 X W ρe ρ (.Assign [.Name x p2] (.Call (.Name y p) (a :: es) [] pos) pos) n3 ((m.bind fun ys => guardR (noLs (ys.map PD.d)) (.ok ys)).quiet) := by
  obtain ⟨t, pa, qa⟩ := ha.ex
  obtain ⟨fd, ps, F1, F2⟩ := F.ok
  refine ⟨_, ps_set C.nd hi hx (pe_callS F1 (C.room.mono hk) hg F.gl F.kp F2 (fun σ => L2N.passAt C.tk σ) pa hdb he hpl) hs hf, fun S own0 σ H D rs00 h => ?_⟩
  obtain ⟨own, rs, hsub, hli2⟩ := rs00.trim
  have hq := (Post.quiet (E' := fun _ => False) h).bind
  refine qa S own σ H _ _ _ rs (fun e z => z.elim) hq fun x vs H' s r hx => ⟨S, x, fun b hb => (rs.mono s).dom b (List.mem_append_left _ hb), r, Post.imp (hx.quiet (E' := fun _ => False)) (fun y hy H2 a vs s2 na e1 e2 => ?_) fun _ z => z.elim⟩
  obtain ⟨hg1, hy⟩ := Post.guard hy
  have s3 := s.trans s2
  have e3 : RpAll X.K (hide (a :: (S ++ own)) H2) vs y := by
    have z := dpAll_noL (B := a :: S) (B' := a :: (S ++ own)) (H := H2) (fun b hb hn => by
      rcases List.mem_cons.mp hb with z | z
      · exact absurd (z ▸ List.mem_cons_self) hn
      · rcases List.mem_append.mp z with z | z
        · exact absurd (List.mem_cons_of_mem _ z) hn
        · obtain ⟨ws, e⟩ := hli2 b z
          exact ⟨ws, s3 _ _ e⟩) _ hg1 (dpAll_of' e2)
    have z := dpAll_rp z
    rw [List.map_map] at z
    have e0 : (PD.mk ∘ PD.d : PD → PD) = id := rfl
    rw [e0, List.map_id] at z
    exact z
  have rs2 := rs.setOwn s3 (s.free na) e1 e3 i hli
  refine hy _ H2 (a :: own) ⟨fun b o z _ => s3 b o z, fun b z => dom_same s3 z, fun b z => ?_⟩ ?_
  · rcases List.mem_cons.mp z with z | z
    · exact .inr (z ▸ s.free na)
    · exact .inl (hsub b z)
  · rw [hn]
    exact rs2
end
end Py

set_option Elab.async false
set_option linter.all false
set_option maxRecDepth 100000
set_option maxHeartbeats 1000000
/-! Py, part O5: what is kept, lent for one expression. -/
namespace Py
open PySem PySem.Spec L2
open Rp (rp)
/-- ρ': some of what ρ keeps is lent -/
structure Lend (ρ ρ' : List Slot) : Prop where
  ok : ∀ (K : PySem.W.Frag) (S own : List Addr) (σ : St) (H : Hp), RS K S ρ σ H own → ∃ own1, RS K S ρ' σ H own1 ∧ (∀ a ∈ own1, a ∈ own) ∧ ∀ a ∈ own, a ∉ own1 → ∃ ws, H a = some (.lst ws)
theorem Lend.refl {ρ : List Slot} : Lend ρ ρ := ⟨fun K S own σ H r => ⟨own, r, fun _ h => h, fun a h n => absurd h n⟩⟩
theorem Lend.trans {ρ ρ1 ρ2 : List Slot} (a : Lend ρ ρ1) (b : Lend ρ1 ρ2) : Lend ρ ρ2 := ⟨fun K S own σ H r => by
  obtain ⟨o1, r1, s1, l1⟩ := a.ok K S own σ H r
  obtain ⟨o2, r2, s2, l2⟩ := b.ok K S o1 σ H r1
  refine ⟨o2, r2, fun c h => s1 c (s2 c h), fun c h n => ?_⟩
  by_cases hc : c ∈ o1
  · exact l2 c hc n
  · exact l1 c h hc⟩
theorem RS.same_set {K : PySem.W.Frag} {S own : List Addr} {ρ : List Slot} {σ : St} {H : Hp} {i : Nat} {v : V} (e : σ[i]? = some (some v)) (r : RS K S ρ (σ.set i (some v)) H own) : RS K S ρ σ H own := by
  have z : σ.set i (some v) = σ := by
    apply List.ext_getElem?
    intro n
    by_cases hn : i = n
    · subst hn
      rw [List.getElem?_set_self (List.getElem?_eq_some_iff.mp e).1, e]
    · rw [List.getElem?_set_ne hn]
  exact z ▸ r
theorem lend_own (i : Nat) {ρ ρ' : List Slot} {T : Type} [Rp T] {ao : Option Addr} {xs : List T} (L : Lend (ρ.set i (.val (List T) xs)) ρ') (hr : ρ[i]? = some (Slot.own T ao xs) := by rfl) : Lend ρ ρ' := by
  refine Lend.trans ⟨fun K S own σ H r => ?_⟩ L
  obtain ⟨ads, h1, h2, h3⟩ := r.rs
  obtain ⟨a, vs, ads', e1, e2, e3, e4, _, q⟩ := h1.take hr
  have rx : RX K S (ρ.set i .non) σ H own [a] := ⟨⟨ads', q, e2.nodup_iff.mp h2, fun b hb => h3 b (e2.mem_iff.mpr hb)⟩, r.out, r.dom⟩
  have fr := rx.frame
  have hsub : ∀ b, b ∈ S ++ less own [a] → b ∈ S ++ own := fun b hb => (List.mem_append.mp hb).elim (fun z => List.mem_append_left _ z) fun z => List.mem_append_right _ (mem_less.mp z).1
  have ha : a ∉ S ++ less own [a] := fun z => by
    rcases List.mem_append.mp z with z | z
    · exact r.out a (h3 a (e2.mem_iff.mpr List.mem_cons_self)) z
    · exact (mem_less.mp z).2 List.mem_cons_self
  have r2 : RS K S (ρ.set i .non) σ H (less own [a]) := by
    obtain ⟨⟨ads2, k1, k2, k3⟩, k4, k5⟩ := fr
    refine ⟨⟨ads2, k1.mono (hide_mono fun b hb => ?_) (fun _ _ _ e => e), k2, k3⟩, fun b hb => r.out b (mem_less.mp hb).1, fun b hb => r.dom b (hsub b hb)⟩
    rcases List.mem_append.mp hb with z | z
    · exact List.mem_append_left _ (List.mem_append_left _ z)
    · exact List.mem_append_right _ z
  have r3 := r2.set (T := List T) (v := .ref a) (x := xs) (show rp K (hide (S ++ less own [a]) H) (V.ref a) xs from ⟨a, vs, rfl, by rw [hide_out ha]; exact e3, RpAll.mono (hide_mono hsub) e4⟩) i
  rw [List.set_set] at r3
  refine ⟨less own [a], RS.same_set e1 r3, fun b hb => (mem_less.mp hb).1, fun b hb n => ?_⟩
  by_cases z : b = a
  · exact ⟨vs, z ▸ e3⟩
  · exact absurd (mem_less.mpr ⟨hb, fun q => z (List.mem_singleton.mp q)⟩) n
theorem lend_ow (i : Nat) {ρ ρ' : List Slot} {o : OV} {d : PyData} (s : ShD o d) (L : Lend (ρ.set i (.val PD ⟨d⟩)) ρ') (hr : ρ[i]? = some (Slot.ow o) := by rfl) : Lend ρ ρ' := by
  refine Lend.trans ⟨fun K S own σ H r => ?_⟩ L
  obtain ⟨ads, h1, h2, h3⟩ := r.rs
  obtain ⟨v, bs, ads', e1, e2, e3, q⟩ := h1.takeOw hr
  have rx : RX K S (ρ.set i .non) σ H own bs := ⟨⟨ads', q, e2.nodup_iff.mp h2, fun b hb => h3 b (e2.mem_iff.mpr hb)⟩, r.out, r.dom⟩
  have fr := rx.frame
  have hsub : ∀ b, b ∈ S ++ less own bs → b ∈ S ++ own := fun b hb => (List.mem_append.mp hb).elim (fun z => List.mem_append_left _ z) fun z => List.mem_append_right _ (mem_less.mp z).1
  have r2 : RS K S (ρ.set i .non) σ H (less own bs) := by
    obtain ⟨⟨ads2, k1, k2, k3⟩, k4, k5⟩ := fr
    refine ⟨⟨ads2, k1.mono (hide_mono fun b hb => ?_) (fun _ _ _ e => e), k2, k3⟩, fun b hb => r.out b (mem_less.mp hb).1, fun b hb => r.dom b (hsub b hb)⟩
    rcases List.mem_append.mp hb with z | z
    · exact List.mem_append_left _ (List.mem_append_left _ z)
    · exact List.mem_append_right _ z
  have hin : ∀ b ∈ bs, b ∈ own := fun b hb => h3 b (e2.mem_iff.mpr (List.mem_append_left _ hb))
  have r3 := r2.set (T := PD) (v := v) (x := ⟨d⟩) (Ow.dp hsub (fun b hb z => by
    rcases List.mem_append.mp z with z | z
    · exact r.out b (hin b hb) z
    · exact (mem_less.mp z).2 hb) e3 s) i
  rw [List.set_set] at r3
  refine ⟨less own bs, RS.same_set e1 r3, fun b hb => (mem_less.mp hb).1, fun b hb n => ?_⟩
  by_cases z : b ∈ bs
  · exact e3.lists b z
  · exact absurd (mem_less.mpr ⟨hb, z⟩) n
mutual
inductive FlatOV : OV → Prop where
  | val {T : Type} [Rp T] [Flat T] (x : T) : FlatOV (.val T x)
  | lst {T : Type} [Rp T] [Flat T] (xs : List T) : FlatOV (.lst T xs)
  | tup {os : List OV} : FlatOVs os → FlatOV (.tup os)
  | lol {os : List OV} : FlatOVs os → FlatOV (.lol os)
inductive FlatOVs : List OV → Prop where
  | nil : FlatOVs []
  | cons {o : OV} {os : List OV} : FlatOV o → FlatOVs os → FlatOVs (o :: os)
end
mutual
theorem Ow.flat {K : PySem.W.Frag} {B B' : List Addr} {H : Hp} (hB : ∀ b ∈ B', b ∉ B → ∃ ws, H b = some (.lst ws)) {v : V} {o : OV} {bs : List Addr} (f : FlatOV o) (h : Ow K (hide B H) H v o bs) : Ow K (hide B' H) H v o bs := by
  cases h with
  | val h => cases f with | val x => exact .val (Flat.any h)
  | lst e h => cases f with | lst xs => exact .lst e (Paired.imp2 h fun _ _ z => Flat.any z)
  | tup e h => cases f with | tup f => exact .tup (hide_lists hB e) (Ows.flat hB f h)
  | lol e h => cases f with | lol f => exact .lol e (Ows.flat hB f h)
theorem Ows.flat {K : PySem.W.Frag} {B B' : List Addr} {H : Hp} (hB : ∀ b ∈ B', b ∉ B → ∃ ws, H b = some (.lst ws)) {vs : List V} {os : List OV} {bs : List Addr} (f : FlatOVs os) (h : Ows K (hide B H) H vs os bs) : Ows K (hide B' H) H vs os bs := by
  cases h with
  | nil => exact .nil
  | cons h t => cases f with | cons f g => exact .cons (Ow.flat hB f h) (Ows.flat hB g t)
end
section
variable {S₁ T R : Type} [Rp T] {X : Cx} {W : WX} {g : Bool} {ρe : Option (List Slot)} {ρ ρ' : List Slot} {a b e tg : Expr} {es : List Expr} {pos : Pos} {lv : Nat}
theorem e_lend [Flat T] {m : Res T} (L : Lend ρ ρ') (h : EG X W true ρ' e m) : EG X W g ρ e m.quiet := by
  obtain ⟨t, p, q⟩ := h.ex
  refine ⟨t, p, fun S own σ H Q rs hp => ?_⟩
  obtain ⟨own1, rs1, _, _⟩ := L.ok _ _ _ _ _ rs
  exact q S own1 σ H Q rs1 (Post.imp (Post.quiet (E' := fun _ => False) hp) (fun x hx H' v s r => hx H' v s (Flat.any r)) fun _ z => z.elim)
theorem t_lend {m : Res Bool} (L : Lend ρ ρ') (h : TJ X W ρ' e m) : TJ X W ρ e m.quiet := by
  obtain ⟨t, p, q⟩ := h.ex
  refine ⟨t, p, fun S own σ H Q rs hp => ?_⟩
  obtain ⟨own1, rs1, _, _⟩ := L.ok _ _ _ _ _ rs
  exact q S own1 σ H Q rs1 (Post.imp (Post.quiet (E' := fun _ => False) hp) (fun x hx => hx) fun _ z => z.elim)
theorem f_lend [Flat T] {m : Res (List T)} (L : Lend ρ ρ') (h : FG X W ρ' e m) : FG X W ρ e m.quiet := by
  obtain ⟨t, p, q⟩ := h.ex
  refine ⟨t, p, fun S own σ H Q rs hp => ?_⟩
  obtain ⟨own1, rs1, _, _⟩ := L.ok _ _ _ _ _ rs
  exact q S own1 σ H Q rs1 (Post.imp (Post.quiet (E' := fun _ => False) hp) (fun x hx H' a vs s na e1 e2 => hx H' a vs s na e1 (Paired.imp2 e2 fun _ _ z => Flat.any z)) fun _ z => z.elim)
theorem f_lendD {m : Res (List PD)} (L : Lend ρ ρ') (h : FG X W ρ' e m) : FG X W ρ e (m.bind fun ys => guardR (noLs (ys.map PD.d)) (.ok ys)).quiet := by
  obtain ⟨t, p, q⟩ := h.ex
  refine ⟨t, p, fun S own σ H Q rs hp => ?_⟩
  obtain ⟨own1, rs1, s1, l1⟩ := L.ok _ _ _ _ _ rs
  refine q S own1 σ H Q rs1 (Post.imp (Post.quiet (E' := fun _ => False) hp).bind (fun x hx H' a vs s na e1 e2 => ?_) fun _ z => z.elim)
  obtain ⟨hg, hx⟩ := Post.guard hx
  refine hx H' a vs s na e1 ?_
  have z := dpAll_noL (B := a :: (S ++ own1)) (B' := a :: (S ++ own)) (H := H') (fun b hb hn => by
    rcases List.mem_cons.mp hb with z | z
    · exact absurd (z ▸ List.mem_cons_self) hn
    · rcases List.mem_append.mp z with z | z
      · exact absurd (List.mem_cons_of_mem _ (List.mem_append_left _ z)) hn
      · obtain ⟨ws, e⟩ := l1 b z fun q => hn (List.mem_cons_of_mem _ (List.mem_append_right _ q))
        exact ⟨ws, s _ _ e⟩) _ hg (dpAll_of' e2)
  have z := dpAll_rp z
  rw [List.map_map] at z
  have e0 : (PD.mk ∘ PD.d : PD → PD) = id := rfl
  rw [e0, List.map_id] at z
  exact z
theorem x_callL {ov : R → OV} {x : Str} {p : Pos} {A : Type} {as : A → List AV} {f : A → Res R} {m : Res R} {k : Nat} (C : CtxOk X W lv) (F : FOk X.prog X.w X.K X.mg X.base x k (spX X.K ov as f)) (L : Lend ρ ρ') (hF : ∀ r, FlatOV (ov r)) (ha : AJ X W true ρ' (a :: es) as f m) (hk : k ≤ lv := by decide)
    (hg : Gl X x := by rfl) (hdb : (x == ("__debug__" : Str)) = false := by decide) (he : starEach (a :: es) X.env = (false, eval a X.env) :: starEach es X.env := by rfl) (hpl : (backTo pos (starEach es X.env)).any (·.1) = false := by rfl) :
    XG X W ρ ρ (.Call (.Name x p) (a :: es) [] pos) ov m.quiet := by
  obtain ⟨t, pa, qa⟩ := ha.ex
  obtain ⟨fd, ps, F1, F2⟩ := F.ok
  refine ⟨_, pe_callS F1 (C.room.mono hk) hg F.gl F.kp F2 (fun σ => L2N.passAt C.tk σ) pa hdb he hpl, fun S own σ H bs0 Q rx hp => ?_⟩
  obtain ⟨own1, rs1, s1, l1⟩ := L.ok _ _ _ _ _ rx.frame
  refine qa (S ++ bs0) own1 σ H _ _ _ rs1 (fun e z => z.elim) (Post.quiet (E' := fun _ => False) hp) fun x vs H' s r hx => ⟨(S ++ bs0) ++ own1, x, (rs1.mono s).dom, r, hx.imp (fun y hy H2 v bs s2 nd hb o => ?_) fun ex z => z.elim⟩
  have fr : ∀ b ∈ bs, H b = none := fun b hb' => s.free (hb b hb').1
  have g : Gw own H (own ++ bs) H2 := ⟨s.trans s2, fun c hc => (List.mem_append.mp hc).imp id (fr c), fun c hc => List.mem_append_left _ hc⟩
  refine hy v bs H2 (own ++ bs) g ?_ (o.flat (fun b hb hn => ?_) (hF y))
  · obtain ⟨⟨ads, k1, k2, k3⟩, k4, k5⟩ := rx
    refine ⟨⟨ads, k1.mono g.sight fun c _ o e => g.same c o e, ?_, fun c hc => ?_⟩, fun c hc => ?_, fun c hc => ?_⟩
    · rw [List.append_assoc]
      exact List.nodup_append.mpr ⟨nd, k2, fun c hc d hd z => k5 d (List.mem_append_right _ (k3 d hd)) (fr d (z ▸ hc))⟩
    · rw [List.append_assoc] at hc
      rcases List.mem_append.mp hc with z | z
      · exact List.mem_append_right _ z
      · exact List.mem_append_left _ (k3 c z)
    · rcases List.mem_append.mp hc with z | z
      · exact k4 c z
      · exact fun q => k5 c (List.mem_append_left _ q) (fr c z)
    · rcases List.mem_append.mp hc with z | z
      · exact dom_same g.same (k5 c (List.mem_append_left _ z))
      · rcases List.mem_append.mp z with z | z
        · exact dom_same g.same (k5 c (List.mem_append_right _ z))
        · exact (hb c z).2
  · rcases List.mem_append.mp hb with z | z
    · exact absurd (List.mem_append_left _ (List.mem_append_left _ (List.mem_append_left _ z))) hn
    · rcases List.mem_append.mp z with z | z
      · have n0 : b ∉ bs0 := fun q => hn (List.mem_append_left _ (List.mem_append_left _ (List.mem_append_right _ q)))
        have n1 : b ∉ own1 := fun q => hn (List.mem_append_left _ (List.mem_append_right _ q))
        obtain ⟨ws, e⟩ := l1 b (mem_less.mpr ⟨z, n0⟩) n1
        exact ⟨ws, g.same _ _ e⟩
      · exact absurd (List.mem_append_right _ z) hn
/-- the tail of a tuple, walked -/
theorem i_tail {x : Tup T} {j p p2} (h : EG X W true ρ e (.ok x)) (h1 : 1 ≤ x.l.length) : IJ X W ρ tg (.Subscript e (.Slice (some (.Constant (.int 1) j p)) none none p2) pos) (.ok (x.l.drop 1)) := by
  refine i_tup (m := .ok (⟨x.l.drop 1⟩ : Tup T)) ?_
  obtain ⟨t, pa, q⟩ := h.ex
  refine ⟨_, pe_slice sl_tup pa (po_some pe_int) po_none, fun S own σ H Q rs hp => q S own σ H _ rs fun H' v s r => ?_⟩
  obtain ⟨a, vs, rfl, e1, e2⟩ := r
  have hl : vs.length = x.l.length := e2.length
  have e0 : HT.sIx vs.length 0 (some 1) = 1 := by
    have z := HT.sIx_nat vs.length 0 1
    rw [show (((1 : Nat) : Int)) = (1 : Int) from rfl] at z
    rw [z, Nat.min_eq_left (by omega)]
  refine ⟨1, rfl, a, vs, rfl, SqT.same hide_sub e1, fun z => ?_, fun p np => ?_⟩
  · rw [e0] at z; exact absurd z.1 (by decide)
  · refine hp _ (.ref p) (s.trans (same_upd np)) ⟨p, cutV vs (some 1) none, rfl, .inl (.inl ?_), ?_⟩
    · rw [hide_out fun z => (rs.mono s).dom p (reg_sub p z) np, upd_same]
    · have z := cut_rel (RpAll.mono (hide_same (same_upd (o := .tup (cutV vs (some 1) none)) np)) e2) (some 1) none
      have e3 : cut x.l (some 1) none = x.l.drop 1 := cut_from (i := 1) (by decide) (by omega)
      rw [e3] at z
      exact z
end
section
variable {T U : Type} [Rp T] [Rp U] {X : Cx} {W : WX} {ρe : Option (List Slot)} {ρ ρ' : List Slot} {tg : Expr} {pos : Pos} {lv : Nat}
/-- what a comprehension reads is lent -/
theorem n_lcFL [Flat U] (i : Nat) {y : Str} {py spos : Pos} {elt iter : Expr} {ifs : List Expr} {scope : Scope} {ow : List (Str × Nat)} {ρw : List Slot} {u : List Slot → T → List Slot} {js : List Nat} {t : T → Res Bool} {f : T → Res U} {m : Res (List T)} {n3 : List U → List Slot} (L : Lend ρ ρ') (C : CtxOk X W lv) (hi : IJ X W ρ' tg iter m)
    (h : ∀ s H C cl fp, LcPart X scope ρw tg elt ifs u js t f s H C cl fp) (hn : ∀ v, n3 v = ρ.set i (.own U none v) := by intro _; rfl) (hw : ρw = wipeS ρ' (ow.map (·.2)) := by rfl) (hl : i < ρ.length := by exact Nat.le_of_ble_eq_true rfl) (hj : ∀ i ∈ js, i ∈ ow.map (·.2) := by decide)
    (hy : X.N[i]? = some y := by rfl) (hyl : X.env.scope.names.lookup y = some .local := by rfl) (hsw : swapsWith (.ListComp elt [⟨tg, iter, ifs, 0⟩] scope pos) (some (.Name y py)) spos.line X.env = pure true := by exact sw_true rfl rfl rfl (by decide +kernel))
    (ok : BlkOk X.N X.env.scope scope ow := by exact blkOk_by (by rfl)) (hs : ∀ x, foldedSetIterable iter X.env x = pure x := by intro _; rfl) :
    N1 X W ρe ρ (.Assign [.Name y py] (.ListComp elt [⟨tg, iter, ifs, 0⟩] scope pos) spos) n3 (m.bind fun xs => lcX t f xs).quiet := by
  obtain ⟨wi, pi, qi⟩ := hi.ex
  obtain ⟨gt, tt, te, pg, pt, pe, hg, ht, he⟩ := lc_uni h
  refine ⟨_, ps_setLc C.calm C.nd hy hyl hsw pi ok pg pt pe hs, fun S own σ H D rs hP => ?_⟩
  obtain ⟨own1, rs1, _, _⟩ := L.ok _ _ _ _ _ rs
  refine qi S own1 σ H _ rs1 ((Post.quiet (E' := fun _ => False) hP).bind.imp (fun xs hx J H1 s1 wj => ?_) fun _ z => z.elim)
  refine lc_read (Q := fun v H2 => D.nx (σ.set i (some v)) H2) hj (rs1.mono s1) hw wj hg ht he (Post.imp (lcX_quiet hx (E' := fun _ => True)) (fun ys hy H' a vs s na e1 e2 => hy _ H' (a :: own) ⟨fun b o z _ => (s1.trans s) b o z, fun b z => dom_same (s1.trans s) z, fun b z => ?_⟩ ?_) fun _ z => z)
  · rcases List.mem_cons.mp z with z | z
    · exact .inr (z ▸ s1.free na)
    · exact .inl z
  · rw [hn]
    exact rs.setOwn (s1.trans s) (s1.free na) e1 (Paired.imp2 e2 fun _ _ z => Flat.any z) i hl
theorem n_lcL [Flat U] (i : Nat) {y : Str} {py spos : Pos} {elt iter : Expr} {ifs : List Expr} {scope : Scope} {ow : List (Str × Nat)} {ρw : List Slot} {u : List Slot → T → List Slot} {js : List Nat} {t : T → Res Bool} {f : T → Res U} {m : Res (List T)} {n3 : List U → List Slot} (L : Lend ρ ρ') (C : CtxOk X W lv) (hi : IJ X W ρ' tg iter m)
    (h : ∀ s H C cl fp, LcPart X scope ρw tg elt ifs u js t f s H C cl fp) (hn : ∀ v, n3 v = ρ.set i (.val (List U) v) := by intro _; rfl) (hw : ρw = wipeS ρ' (ow.map (·.2)) := by rfl) (hj : ∀ i ∈ js, i ∈ ow.map (·.2) := by decide)
    (hy : X.N[i]? = some y := by rfl) (hyl : X.env.scope.names.lookup y = some .local := by rfl) (hsw : swapsWith (.ListComp elt [⟨tg, iter, ifs, 0⟩] scope pos) (some (.Name y py)) spos.line X.env = pure true := by exact sw_true rfl rfl rfl (by decide +kernel))
    (ok : BlkOk X.N X.env.scope scope ow := by exact blkOk_by (by rfl)) (hs : ∀ x, foldedSetIterable iter X.env x = pure x := by intro _; rfl) :
    N1 X W ρe ρ (.Assign [.Name y py] (.ListComp elt [⟨tg, iter, ifs, 0⟩] scope pos) spos) n3 (m.bind fun xs => lcX t f xs).quiet := by
  obtain ⟨wi, pi, qi⟩ := hi.ex
  obtain ⟨gt, tt, te, pg, pt, pe, hg, ht, he⟩ := lc_uni h
  refine ⟨_, ps_setLc C.calm C.nd hy hyl hsw pi ok pg pt pe hs, fun S own σ H D rs hP => ?_⟩
  obtain ⟨own1, rs1, _, _⟩ := L.ok _ _ _ _ _ rs
  refine qi S own1 σ H _ rs1 ((Post.quiet (E' := fun _ => False) hP).bind.imp (fun xs hx J H1 s1 wj => ?_) fun _ z => z.elim)
  refine lc_read (Q := fun v H2 => D.nx (σ.set i (some v)) H2) hj (rs1.mono s1) hw wj hg ht he (Post.imp (lcX_quiet hx (E' := fun _ => True)) (fun ys hy H' a vs s na e1 e2 => hy _ H' own (Ext.of_same (s1.trans s)) ?_) fun _ z => z)
  rw [hn]
  have e3 : hide (S ++ own) H' a = some (.lst vs) := by
    rw [hide_out fun z => (rs.mono s1).dom a z na]
    exact e1
  have r : rp X.K (hide (S ++ own) H') (V.ref a) ys := ⟨a, vs, rfl, e3, Paired.imp2 e2 fun _ _ z => Flat.any z⟩
  exact (rs.mono (s1.trans s)).set r i
end
theorem b_dead {S₁ : Type} {X : Cx} {W : WX} {ρe : Option (List Slot)} {ρ : List Slot} {sts : List Stmt} {n : S₁ → List Slot} : SN X W ρe ρ sts n .bad := ⟨fun _ _ _ => False, ⟨fun _ _ _ _ _ _ h => h.elim⟩, fun _ _ _ _ _ _ h => h.elim⟩
/-! ### answers of the least cost: a word and a list; or a word, a number and two lists -/
inductive LC where
  | c2 (a : Str) (xs : List Int)
  | c4 (a : Str) (d : Int) (xs ys : List Int)
instance : Places LC := ⟨fun | .c2 a xs => [av a, av xs] | .c4 a d xs ys => [av a, av d, av xs, av ys]⟩
def LC.os : LC → List OV
  | .c2 a xs => [.val Str a, .lst Int xs]
  | .c4 a d xs ys => [.val Str a, .val Int d, .lst Int xs, .lst Int ys]
abbrev LC.ov (x : LC) : OV := .tup x.os
def LC.pd : LC → PyData
  | .c2 a xs => .tuple [.str a, .list (xs.map PyData.int)]
  | .c4 a d xs ys => .tuple [.str a, .int d, .list (xs.map PyData.int), .list (ys.map PyData.int)]
theorem LC.sh : ∀ x : LC, ShD (.tup x.os) x.pd
  | .c2 a xs => .tup (.cons (.val (T := Str) a) (.cons (.lst (T := Int) xs) .nil))
  | .c4 a d xs ys => .tup (.cons (.val (T := Str) a) (.cons (.val (T := Int) d) (.cons (.lst (T := Int) xs) (.cons (.lst (T := Int) ys) .nil))))
theorem LC.flat : ∀ x : LC, FlatOV x.ov
  | .c2 a xs => .tup (.cons (.val (T := Str) a) (.cons (.lst (T := Int) xs) .nil))
  | .c4 a d xs ys => .tup (.cons (.val (T := Str) a) (.cons (.val (T := Int) d) (.cons (.lst (T := Int) xs) (.cons (.lst (T := Int) ys) .nil))))
/-- the parts behind the word -/
def LC.items : LC → List (Int ⊕ List Int)
  | .c2 _ xs => [.inr xs]
  | .c4 _ d xs ys => [.inl d, .inr xs, .inr ys]
def itOV : Int ⊕ List Int → OV
  | .inl d => .val Int d
  | .inr xs => .lst Int xs
theorem LC.tail : ∀ x : LC, x.os.drop 1 = x.items.map itOV
  | .c2 _ _ => rfl
  | .c4 _ _ _ _ => rfl
theorem LC.len : ∀ x : LC, 1 ≤ x.os.length
  | .c2 _ _ => by show 1 ≤ 2; omega
  | .c4 _ _ _ _ => by show 1 ≤ 4; omega
end Py

set_option Elab.async false
set_option linter.all false
set_option maxRecDepth 100000
set_option maxHeartbeats 1000000
/-! Py, part L: sums, determinants, inverses of whole numbers. -/
namespace La
def sm : Nat → (Nat → Int) → Int
  | 0, _ => 0
  | n + 1, f => sm n f + f n
theorem sm_congr {n : Nat} {f g : Nat → Int} (h : ∀ k, k < n → f k = g k) : sm n f = sm n g := by
  induction n with
  | zero => rfl
  | succ n ih => simp only [sm]; rw [ih fun k hk => h k (by omega), h n (by omega)]
theorem sm_zero {n : Nat} {f : Nat → Int} (h : ∀ k, k < n → f k = 0) : sm n f = 0 := by
  induction n with
  | zero => rfl
  | succ n ih => simp only [sm]; rw [ih fun k hk => h k (by omega), h n (by omega)]; rfl
theorem sm_add {n : Nat} {f g : Nat → Int} : sm n (fun k => f k + g k) = sm n f + sm n g := by
  induction n with
  | zero => rfl
  | succ n ih => simp only [sm]; rw [ih]; omega
theorem sm_sub {n : Nat} {f g : Nat → Int} : sm n (fun k => f k - g k) = sm n f - sm n g := by
  induction n with
  | zero => rfl
  | succ n ih => simp only [sm]; rw [ih]; omega
theorem sm_mul {n : Nat} {f : Nat → Int} {a : Int} : sm n (fun k => a * f k) = a * sm n f := by
  induction n with
  | zero => simp [sm]
  | succ n ih => simp only [sm]; rw [ih, Int.mul_add]
theorem sm_mulr {n : Nat} {f : Nat → Int} {a : Int} : sm n (fun k => f k * a) = sm n f * a := by
  induction n with
  | zero => simp [sm]
  | succ n ih => simp only [sm]; rw [ih, Int.add_mul]
theorem sm_neg {n : Nat} {f : Nat → Int} : sm n (fun k => - f k) = - sm n f := by
  induction n with
  | zero => rfl
  | succ n ih => simp only [sm]; rw [ih]; omega
theorem sm_comm {n m : Nat} {f : Nat → Nat → Int} : sm n (fun i => sm m fun j => f i j) = sm m fun j => sm n fun i => f i j := by
  induction n with
  | zero => exact (sm_zero fun k _ => rfl).symm
  | succ n ih =>
    have e : sm (n + 1) (fun i => sm m fun j => f i j) = sm n (fun i => sm m fun j => f i j) + sm m fun j => f n j := rfl
    rw [e, ih, ← sm_add]
    rfl
theorem sm_one {n p : Nat} {f : Nat → Int} (hp : p < n) (h : ∀ k, k < n → k ≠ p → f k = 0) : sm n f = f p := by
  induction n with
  | zero => omega
  | succ n ih =>
    simp only [sm]
    by_cases e : p = n
    · subst e
      rw [sm_zero fun k hk => h k (by omega) (by omega)]; omega
    · rw [ih (by omega) fun k hk hk2 => h k (by omega) hk2, h n (by omega) (fun z => e z.symm)]; omega
theorem sm_two {n p q : Nat} {f : Nat → Int} (hp : p < q) (hq : q < n) (h : ∀ k, k < n → k ≠ p → k ≠ q → f k = 0) : sm n f = f p + f q := by
  induction n with
  | zero => omega
  | succ n ih =>
    simp only [sm]
    by_cases e : q = n
    · subst e
      rw [sm_one (p := p) (by omega) fun k hk hk2 => h k (by omega) hk2 (by omega)]
    · rw [ih (by omega) fun k hk h1 h2 => h k (by omega) h1 h2, h n (by omega) (by omega) (fun z => e z.symm)]; omega
/-- all places but p -/
theorem sm_split {n p : Nat} {f : Nat → Int} (hp : p < n) : sm n f = sm n (fun k => if k = p then 0 else f k) + f p := by
  have e : sm n f = sm n (fun k => (if k = p then 0 else f k) + (if k = p then f k else 0)) := sm_congr fun k _ => by split <;> omega
  rw [e, sm_add]
  rw [sm_one (f := fun k => if k = p then f k else 0) hp fun k _ h => if_neg h]
  rw [if_pos rfl]
theorem sm_nonneg {n : Nat} {f : Nat → Int} (h : ∀ k, k < n → 0 ≤ f k) : 0 ≤ sm n f := by
  induction n with
  | zero => exact Int.le_refl _
  | succ n ih =>
    have h1 := ih fun k hk => h k (by omega)
    have h2 := h n (by omega)
    simp only [sm]; omega
theorem sm_abs {n : Nat} {f : Nat → Int} {b : Nat} (h : ∀ k, k < n → (f k).natAbs ≤ b) : (sm n f).natAbs ≤ n * b := by
  induction n with
  | zero => simp [sm]
  | succ n ih =>
    have h1 := ih fun k hk => h k (by omega)
    have h2 := h n (by omega)
    simp only [sm]
    rw [Nat.succ_mul]
    omega
theorem sm_pos_ex {n : Nat} {f : Nat → Int} (h : 0 < sm n f) : ∃ k, k < n ∧ 0 < f k := by
  induction n with
  | zero => exact absurd h (by simp [sm])
  | succ n ih =>
    simp only [sm] at h
    by_cases h1 : 0 < f n
    · exact ⟨n, by omega, h1⟩
    · obtain ⟨k, hk, hk2⟩ := ih (by omega)
      exact ⟨k, by omega, hk2⟩
theorem sm_zero_all {n : Nat} {f : Nat → Int} (h : ∀ k, k < n → 0 ≤ f k) (e : sm n f ≤ 0) : ∀ k, k < n → f k = 0 := by
  induction n with
  | zero => intro k hk; omega
  | succ n ih =>
    simp only [sm] at e
    have h1 := sm_nonneg (n := n) fun k hk => h k (by omega)
    have h2 := h n (by omega)
    intro k hk
    by_cases hkn : k = n
    · subst hkn; omega
    · exact ih (fun k hk => h k (by omega)) (by omega) k (by omega)
def dl (a b : Nat) : Int := if a = b then 1 else 0
theorem sm_dl {n p : Nat} {f : Nat → Int} (hp : p < n) : sm n (fun k => f k * dl k p) = f p := by
  rw [sm_one hp fun k _ h => by unfold dl; rw [if_neg h, Int.mul_zero]]
  unfold dl; rw [if_pos rfl, Int.mul_one]
theorem sm_dl2 {n p : Nat} {f : Nat → Int} (hp : p < n) : sm n (fun k => dl p k * f k) = f p := by
  rw [sm_one hp fun k _ h => by unfold dl; rw [if_neg (fun z => h z.symm), Int.zero_mul]]
  unfold dl; rw [if_pos rfl, Int.one_mul]
/-! ### determinants -/
def sk (j c : Nat) : Nat := if c < j then c else c + 1
def sg (j : Nat) : Int := if j % 2 = 0 then 1 else -1
def dt : Nat → (Nat → Nat → Int) → Int
  | 0, _ => 1
  | n + 1, M => sm (n + 1) fun j => sg j * M j 0 * dt n fun c r => M (sk j c) (r + 1)
def up (M : Nat → Nat → Int) (p : Nat) (v : Nat → Int) : Nat → Nat → Int := fun c => if c = p then v else M c
theorem up_same (M : Nat → Nat → Int) (p : Nat) (v : Nat → Int) : up M p v p = v := if_pos rfl
theorem up_ne {M : Nat → Nat → Int} {p c : Nat} {v : Nat → Int} (h : c ≠ p) : up M p v c = M c := if_neg h
theorem sk_ne (j c : Nat) : sk j c ≠ j := by unfold sk; split <;> omega
theorem sk_lt {n j c : Nat} (hj : j < n + 1) (hc : c < n) : sk j c < n + 1 := by unfold sk; split <;> omega
theorem sk_inj {j c c' : Nat} (h : sk j c = sk j c') : c = c' := by unfold sk at h; split at h <;> split at h <;> omega
theorem dt_congr : ∀ {n : Nat} {M M' : Nat → Nat → Int}, (∀ c, c < n → ∀ r, r < n → M c r = M' c r) → dt n M = dt n M' := by
  intro n
  induction n with
  | zero => intro M M' _; rfl
  | succ n ih =>
    intro M M' h
    show sm _ _ = sm _ _
    refine sm_congr fun j hj => ?_
    rw [h j hj 0 (by omega), ih fun c hc r hr => h _ (sk_lt hj hc) _ (by omega)]
def pr (j p : Nat) : Nat := if p < j then p else p - 1
theorem sk_pr {j p : Nat} (h : p ≠ j) : sk j (pr j p) = p := by
  unfold sk pr
  by_cases h1 : p < j
  · rw [if_pos h1, if_pos h1]
  · rw [if_neg h1, if_neg (by omega)]; omega
theorem pr_lt {n j p : Nat} (hj : j < n + 1) (hp : p < n + 1) (h : p ≠ j) : pr j p < n := by unfold pr; split <;> omega
theorem up_sk {M : Nat → Nat → Int} {j p : Nat} {v : Nat → Int} (h : p ≠ j) : (fun c r => up M p v (sk j c) (r + 1)) = up (fun c r => M (sk j c) (r + 1)) (pr j p) (fun r => v (r + 1)) := by
  funext c r
  by_cases hc : c = pr j p
  · subst hc
    rw [sk_pr h, up_same, up_same]
  · rw [up_ne hc, up_ne]
    intro z
    exact hc (sk_inj (j := j) (z.trans (sk_pr h).symm))
theorem up_skj {M : Nat → Nat → Int} {j : Nat} {v : Nat → Int} : (fun c r => up M j v (sk j c) (r + 1)) = fun c r => M (sk j c) (r + 1) := by
  funext c r
  rw [up_ne (sk_ne j c)]
theorem dt_lin : ∀ {n : Nat} {M : Nat → Nat → Int} {p : Nat} {u v : Nat → Int} {a b : Int}, p < n → dt n (up M p fun r => a * u r + b * v r) = a * dt n (up M p u) + b * dt n (up M p v) := by
  intro n
  induction n with
  | zero => intro M p u v a b hp; omega
  | succ n ih =>
    intro M p u v a b hp
    show sm _ _ = a * sm _ _ + b * sm _ _
    rw [← sm_mul, ← sm_mul, ← sm_add]
    refine sm_congr fun j hj => ?_
    by_cases e : p = j
    · subst e
      rw [up_skj, up_skj, up_skj, up_same, up_same, up_same]
      generalize dt n _ = d
      rw [Int.mul_add, Int.add_mul]
      congr 1
      · rw [← Int.mul_assoc, Int.mul_comm (sg p) a, Int.mul_assoc, Int.mul_assoc, ← Int.mul_assoc (sg p)]
      · rw [← Int.mul_assoc, Int.mul_comm (sg p) b, Int.mul_assoc, Int.mul_assoc, ← Int.mul_assoc (sg p)]
    · rw [up_sk e, up_sk e, up_sk e, up_ne (fun z => e z.symm), up_ne (fun z => e z.symm), up_ne (fun z => e z.symm)]
      rw [ih (pr_lt hj hp e), Int.mul_add]
      congr 1
      · rw [← Int.mul_assoc, Int.mul_comm _ a, Int.mul_assoc]
      · rw [← Int.mul_assoc, Int.mul_comm _ b, Int.mul_assoc]
theorem sg_succ (j : Nat) : sg (j + 1) = - sg j := by unfold sg; split <;> split <;> omega
theorem dt_adj : ∀ {n : Nat} {M : Nat → Nat → Int} {p : Nat}, p + 1 < n → (∀ r, r < n → M p r = M (p + 1) r) → dt n M = 0 := by
  intro n
  induction n with
  | zero => intro M p hp; omega
  | succ n ih =>
    intro M p hp h
    show sm _ _ = 0
    rw [sm_two (p := p) (q := p + 1) (by omega) hp fun j hj h1 h2 => ?_]
    · have e : dt n (fun c r => M (sk p c) (r + 1)) = dt n fun c r => M (sk (p + 1) c) (r + 1) := dt_congr fun c hc r hr => by
        by_cases h1 : c < p
        · have e1 : sk p c = c := if_pos h1
          have e2 : sk (p + 1) c = c := if_pos (by omega)
          rw [e1, e2]
        · by_cases h2 : c = p
          · subst h2
            have e1 : sk c c = c + 1 := if_neg (by omega)
            have e2 : sk (c + 1) c = c := if_pos (by omega)
            rw [e1, e2]
            exact (h _ (by omega)).symm
          · have e1 : sk p c = c + 1 := if_neg h1
            have e2 : sk (p + 1) c = c + 1 := if_neg (by omega)
            rw [e1, e2]
      rw [e, h 0 (by omega), sg_succ, Int.neg_mul, Int.neg_mul]
      omega
    · have hz : dt n (fun c r => M (sk j c) (r + 1)) = 0 := by
        refine ih (p := pr j p) ?_ ?_
        · unfold pr; split <;> omega
        · intro r hr
          have e1 : sk j (pr j p) = p := sk_pr (by omega)
          have e2 : sk j (pr j p + 1) = p + 1 := by unfold sk pr; split <;> split <;> omega
          rw [e1, e2]
          exact h _ (by omega)
      rw [hz, Int.mul_zero]
theorem up_up {M : Nat → Nat → Int} {p q : Nat} {u v : Nat → Int} (h : p ≠ q) : up (up M p u) q v = up (up M q v) p u := by
  funext c
  by_cases h1 : c = p
  · subst h1; rw [up_ne h, up_same, up_same]
  · by_cases h2 : c = q
    · subst h2; rw [up_same, up_ne h1, up_same]
    · rw [up_ne h2, up_ne h1, up_ne h1, up_ne h2]
theorem dt_add {n : Nat} {M : Nat → Nat → Int} {p : Nat} {u v : Nat → Int} (hp : p < n) : dt n (up M p fun r => u r + v r) = dt n (up M p u) + dt n (up M p v) := by
  have h := dt_lin (M := M) (u := u) (v := v) (a := 1) (b := 1) hp
  simpa using h
/-- two neighbours exchanged -/
theorem dt_swap {n : Nat} {M : Nat → Nat → Int} {p : Nat} {u v : Nat → Int} (hp : p + 1 < n) : dt n (up (up M p u) (p + 1) v) = - dt n (up (up M p v) (p + 1) u) := by
  have z : ∀ w : Nat → Int, dt n (up (up M p w) (p + 1) w) = 0 := fun w => dt_adj hp fun r _ => by
    rw [up_same, up_ne (by omega), up_same]
  have h := z fun r => u r + v r
  rw [dt_add hp] at h
  have a : ∀ w : Nat → Int, dt n (up (up M p fun r => u r + v r) (p + 1) w) = dt n (up (up M p u) (p + 1) w) + dt n (up (up M p v) (p + 1) w) := fun w => by
    rw [up_up (show p ≠ p + 1 by omega), dt_add (by omega), ← up_up (show p ≠ p + 1 by omega), ← up_up (show p ≠ p + 1 by omega)]
  rw [a, a, z u, z v] at h
  omega
theorem dt_alt : ∀ (k : Nat) {n : Nat} {M : Nat → Nat → Int} {p : Nat}, p + 1 + k < n → (∀ r, r < n → M p r = M (p + 1 + k) r) → dt n M = 0 := by
  intro k
  induction k with
  | zero => intro n M p hp h; exact dt_adj hp h
  | succ k ih =>
    intro n M p hp h
    have e : M = up (up M (p + 1 + k) (M (p + 1 + k))) (p + 1 + k + 1) (M (p + 1 + k + 1)) := by
      funext c
      by_cases h1 : c = p + 1 + k + 1
      · subst h1; rw [up_same]
      · rw [up_ne h1]
        by_cases h2 : c = p + 1 + k
        · subst h2; rw [up_same]
        · rw [up_ne h2]
    rw [e, dt_swap (by omega)]
    have z : dt n (up (up M (p + 1 + k) (M (p + 1 + k + 1))) (p + 1 + k + 1) (M (p + 1 + k))) = 0 := by
      refine ih (p := p) (by omega) fun r hr => ?_
      rw [up_ne (show p ≠ p + 1 + k + 1 by omega), up_ne (show p ≠ p + 1 + k by omega), up_ne (show p + 1 + k ≠ p + 1 + k + 1 by omega), up_same]
      exact h r hr
    rw [z]; rfl
theorem dt_eq {n : Nat} {M : Nat → Nat → Int} {p q : Nat} (hp : p < n) (hq : q < n) (hne : p ≠ q) (h : ∀ r, r < n → M p r = M q r) : dt n M = 0 := by
  by_cases hl : p < q
  · refine dt_alt (q - p - 1) (p := p) (by omega) fun r hr => ?_
    rw [h r hr, show p + 1 + (q - p - 1) = q by omega]
  · refine dt_alt (p - q - 1) (p := q) (by omega) fun r hr => ?_
    rw [← h r hr, show q + 1 + (p - q - 1) = p by omega]
theorem dt_id : ∀ n : Nat, dt n dl = 1 := by
  intro n
  induction n with
  | zero => rfl
  | succ n ih =>
    show sm _ _ = 1
    rw [sm_one (p := 0) (by omega) fun k _ hk => by unfold dl; rw [if_neg hk, Int.mul_zero, Int.zero_mul]]
    have e : dt n (fun c r => dl (sk 0 c) (r + 1)) = dt n dl := dt_congr fun c _ r _ => by
      have e1 : sk 0 c = c + 1 := if_neg (by omega)
      rw [e1]; unfold dl
      by_cases h : c = r
      · rw [if_pos h, if_pos (by omega)]
      · rw [if_neg h, if_neg (by omega)]
    rw [e, ih]
    rfl
/-- a column as a sum of units -/
theorem dt_sum {n : Nat} {M : Nat → Nat → Int} {p : Nat} (hp : p < n) {v : Nat → Int} : dt n (up M p v) = sm n fun k => v k * dt n (up M p (dl k)) := by
  have key : ∀ m, m ≤ n → dt n (up M p fun r => if r < m then v r else 0) = sm m fun k => v k * dt n (up M p (dl k)) := by
    intro m
    induction m with
    | zero =>
      intro _
      have h := dt_lin (M := M) (u := fun _ => 0) (v := fun _ => 0) (a := 0) (b := 0) hp
      simp only [Nat.not_lt_zero, if_false]
      show _ = 0
      simpa using h
    | succ m ih =>
      intro hm
      have e : (fun r => if r < m + 1 then v r else 0) = fun r => 1 * (if r < m then v r else 0) + v m * dl m r := by
        funext r
        unfold dl
        by_cases h1 : r < m
        · rw [if_pos (by omega), if_pos h1, if_neg (by omega)]; omega
        · by_cases h2 : r = m
          · subst h2; rw [if_pos (by omega), if_neg (by omega), if_pos rfl]; omega
          · rw [if_neg (by omega), if_neg h1, if_neg (by omega)]; omega
      rw [e, dt_lin hp, ih (by omega), Int.one_mul]
      rfl
  rw [← key n (Nat.le_refl _)]
  refine dt_congr fun c hc r hr => ?_
  by_cases h : c = p
  · subst h; rw [up_same, up_same, if_pos hr]
  · rw [up_ne h, up_ne h]
theorem up_self {M : Nat → Nat → Int} {p : Nat} : up M p (M p) = M := by
  funext c
  by_cases h : c = p
  · subst h; rw [up_same]
  · rw [up_ne h]
/-- the rows of the adjugate, on the columns -/
theorem dt_adjug {n : Nat} {M : Nat → Nat → Int} {p q : Nat} (hp : p < n) (hq : q < n) : (sm n fun k => M q k * dt n (up M p (dl k))) = if p = q then dt n M else 0 := by
  rw [← dt_sum hp]
  by_cases h : p = q
  · subst h; rw [if_pos rfl, up_self]
  · rw [if_neg h]
    exact dt_eq hp hq h fun r _ => by rw [up_same, up_ne (fun z => h z.symm)]
def fac : Nat → Nat
  | 0 => 1
  | n + 1 => (n + 1) * fac n
theorem dt_abs : ∀ {n : Nat} {M : Nat → Nat → Int} {b : Nat}, (∀ c, c < n → ∀ r, r < n → (M c r).natAbs ≤ b) → (dt n M).natAbs ≤ fac n * b ^ n := by
  intro n
  induction n with
  | zero => intro M b _; simp [dt, fac]
  | succ n ih =>
    intro M b h
    show (sm _ _).natAbs ≤ _
    have h2 := sm_abs (n := n + 1) (f := fun j => sg j * M j 0 * dt n fun c r => M (sk j c) (r + 1)) (b := b * (fac n * b ^ n)) fun j hj => by
      rw [Int.natAbs_mul, Int.natAbs_mul]
      have e : (sg j).natAbs = 1 := by unfold sg; split <;> rfl
      rw [e, Nat.one_mul]
      exact Nat.mul_le_mul (h j hj 0 (by omega)) (ih fun c hc r hr => h _ (sk_lt hj hc) _ (by omega))
    refine Nat.le_trans h2 ?_
    have e : (n + 1) * (b * (fac n * b ^ n)) = fac (n + 1) * b ^ (n + 1) := by
      show _ = ((n + 1) * fac n) * (b ^ n * b)
      rw [Nat.mul_comm b, Nat.mul_assoc (fac n), ← Nat.mul_assoc]
    rw [e]
    exact Nat.le_refl _
end La

set_option Elab.async false
set_option linter.all false
set_option maxRecDepth 100000
set_option maxHeartbeats 1000000
/-! Py, part P: tables of whole numbers over a common bottom, pivots, Bland's rule. -/
namespace La
def col (T0 : Nat → Nat → Int) (B : Nat → Nat) : Nat → Nat → Int := fun l p => T0 p (B l)
structure Tb (m n : Nat) (T0 T : Nat → Nat → Int) (d : Int) (B : Nat → Nat) (s : Int) : Prop where
  dne : d ≠ 0
  t0 : ∀ k, k < m → ∀ k', k' < m → T0 k (n + k') = dl k k'
  i1 : ∀ i, i < m → ∀ j, j ≤ n + m → T i j = sm m fun k => T i (n + k) * T0 k j
  i2 : ∀ i, i < m → ∀ l, l < m → T i (B l) = d * dl i l
  bl : ∀ l, l < m → B l < n + m
  ri : ∀ p, p < m → ∀ k, k < m → (sm m fun l => T0 p (B l) * T l (n + k)) = d * dl p k
  dd : d = s * dt m (col T0 B)
  ad : ∀ i, i < m → ∀ k, k < m → T i (n + k) = s * dt m (up (col T0 B) i (dl k))
  ss : s = 1 ∨ s = -1
section
variable {m n : Nat} {T0 T : Nat → Nat → Int} {d : Int} {B : Nat → Nat} {s : Int}
theorem dl_comm (a b : Nat) : dl a b = dl b a := by
  unfold dl
  by_cases h : a = b
  · rw [if_pos h, if_pos h.symm]
  · rw [if_neg h, if_neg fun z => h z.symm]
theorem ss_sq (h : s = 1 ∨ s = -1) (x : Int) : s * (s * x) = x := by rcases h with h | h <;> subst h <;> omega
theorem Tb.rig (h : Tb m n T0 T d B s) {p j : Nat} (hp : p < m) (hj : j ≤ n + m) : (sm m fun l => T0 p (B l) * T l j) = d * T0 p j := by
  have e : (sm m fun l => T0 p (B l) * T l j) = sm m fun l => sm m fun k => T0 p (B l) * T l (n + k) * T0 k j := sm_congr fun l hl => by
    rw [h.i1 l hl j hj, ← sm_mul]
    exact sm_congr fun k hk => by rw [Int.mul_assoc]
  rw [e, sm_comm]
  have e2 : (sm m fun k => sm m fun l => T0 p (B l) * T l (n + k) * T0 k j) = sm m fun k => d * (dl p k * T0 k j) := sm_congr fun k hk => by
    rw [sm_mulr, h.ri p hp k hk, Int.mul_assoc]
  rw [e2, sm_mul, sm_dl2 hp]
/-- Cramer -/
theorem Tb.cramer (h : Tb m n T0 T d B s) {r q : Nat} (hr : r < m) (hq : q ≤ n + m) : T r q = s * dt m (up (col T0 B) r fun p => T0 p q) := by
  rw [h.i1 r hr q hq, dt_sum hr, ← sm_mul]
  exact sm_congr fun k hk => by
    rw [h.ad r hr k hk, Int.mul_assoc, Int.mul_comm (dt m _)]
theorem col_up (r q : Nat) : col T0 (fun l => if l = r then q else B l) = up (col T0 B) r fun p => T0 p q := by
  funext l p
  show T0 p (if l = r then q else B l) = (if l = r then (fun p => T0 p q) else fun p => T0 p (B l)) p
  by_cases h : l = r
  · rw [if_pos h, if_pos h]
  · rw [if_neg h, if_neg h]
theorem mul3 (a b c : Int) : a * (b * c) = b * (a * c) := by rw [← Int.mul_assoc, Int.mul_comm a b, Int.mul_assoc]
theorem cancel {a x y : Int} (ha : a ≠ 0) (h : a * x = a * y) : x = y := Int.eq_of_mul_eq_mul_left ha h
/-- one exact step: the table behind a pivot at (r, q), its row turned by e = 1 or -1 -/
theorem Tb.pivot (h : Tb m n T0 T d B s) {r q : Nat} (hr : r < m) (hq : q < n + m) (hne : T r q ≠ 0) {e : Int} (he : e = 1 ∨ e = -1) :
    ∃ T' : Nat → Nat → Int, Tb m n T0 T' (e * T r q) (fun l => if l = r then q else B l) (e * s) ∧ (∀ j, j ≤ n + m → T' r j = e * T r j) ∧
      ∀ i, i < m → i ≠ r → ∀ j, j ≤ n + m → d * T' i j = e * (T i j * T r q - T i q * T r j) := by
  have hM := col_up (T0 := T0) (B := B) r q
  -- V, the table's own formula
  let V : Nat → Nat → Int := fun i k => if i = r then d * T r (n + k) else T i (n + k) * T r q - T i q * T r (n + k)
  have hdet : T r q = s * dt m (up (col T0 B) r fun p => T0 p q) := h.cramer hr (by omega)
  have ha : ∀ p, p < m → ∀ k, k < m → (sm m fun l => (up (col T0 B) r fun p => T0 p q) l p * V l k) = d * T r q * dl p k := by
    intro p hp k hk
    have e1 : (sm m fun l => (up (col T0 B) r fun p => T0 p q) l p * V l k) = (sm m fun l => T0 p (B l) * (T l (n + k) * T r q - T l q * T r (n + k))) + T0 p q * (d * T r (n + k)) := by
      rw [sm_split hr, sm_split (f := fun l => T0 p (B l) * (T l (n + k) * T r q - T l q * T r (n + k))) hr]
      have z1 : T r (n + k) * T r q - T r q * T r (n + k) = 0 := by rw [Int.mul_comm]; omega
      rw [z1, Int.mul_zero, Int.add_zero]
      congr 1
      · refine sm_congr fun l hl => ?_
        by_cases hlr : l = r
        · rw [if_pos hlr, if_pos hlr]
        · rw [if_neg hlr, if_neg hlr, up_ne hlr]
          show T0 p (B l) * (if l = r then _ else _) = _
          rw [if_neg hlr]
      · show (up (col T0 B) r fun p => T0 p q) r p * (if r = r then _ else _) = _
        rw [up_same, if_pos rfl]
    have e2 : (sm m fun l => T0 p (B l) * (T l (n + k) * T r q - T l q * T r (n + k))) = d * dl p k * T r q - d * T0 p q * T r (n + k) := by
      have e3 : (sm m fun l => T0 p (B l) * (T l (n + k) * T r q - T l q * T r (n + k))) = sm m fun l => T0 p (B l) * T l (n + k) * T r q - T0 p (B l) * T l q * T r (n + k) := sm_congr fun l hl => by
        rw [Int.mul_sub, Int.mul_assoc, Int.mul_assoc]
      rw [e3, sm_sub, sm_mulr, sm_mulr, h.ri p hp k hk, h.rig hp (by omega)]
    rw [e1, e2]
    have e4 : d * T0 p q * T r (n + k) = T0 p q * (d * T r (n + k)) := by rw [Int.mul_comm d, Int.mul_assoc]
    have e5 : d * dl p k * T r q = d * T r q * dl p k := by rw [Int.mul_assoc, Int.mul_comm (dl p k), ← Int.mul_assoc]
    omega
  have hV : ∀ i, i < m → ∀ k, k < m → s * V i k = d * dt m (up (up (col T0 B) r fun p => T0 p q) i (dl k)) := by
    intro i hi k hk
    have e1 : (sm m fun p => dt m (up (up (col T0 B) r fun p => T0 p q) i (dl p)) * (sm m fun l => (up (col T0 B) r fun p => T0 p q) l p * V l k)) = d * T r q * dt m (up (up (col T0 B) r fun p => T0 p q) i (dl k)) := by
      have e2 : (sm m fun p => dt m (up (up (col T0 B) r fun p => T0 p q) i (dl p)) * (sm m fun l => (up (col T0 B) r fun p => T0 p q) l p * V l k)) = sm m fun p => d * T r q * (dt m (up (up (col T0 B) r fun p => T0 p q) i (dl p)) * dl p k) := sm_congr fun p hp => by
        rw [ha p hp k hk, mul3]
      rw [e2, sm_mul, sm_dl (f := fun p => dt m (up (up (col T0 B) r fun p => T0 p q) i (dl p))) hk]
    have e3 : (sm m fun p => dt m (up (up (col T0 B) r fun p => T0 p q) i (dl p)) * (sm m fun l => (up (col T0 B) r fun p => T0 p q) l p * V l k)) = dt m (up (col T0 B) r fun p => T0 p q) * V i k := by
      have e4 : (sm m fun p => dt m (up (up (col T0 B) r fun p => T0 p q) i (dl p)) * (sm m fun l => (up (col T0 B) r fun p => T0 p q) l p * V l k)) = sm m fun p => sm m fun l => (up (col T0 B) r fun p => T0 p q) l p * dt m (up (up (col T0 B) r fun p => T0 p q) i (dl p)) * V l k := sm_congr fun p hp => by
        rw [← sm_mul]
        exact sm_congr fun l hl => by rw [← Int.mul_assoc, Int.mul_comm (dt m _)]
      rw [e4, sm_comm]
      have e5 : (sm m fun l => sm m fun p => (up (col T0 B) r fun p => T0 p q) l p * dt m (up (up (col T0 B) r fun p => T0 p q) i (dl p)) * V l k) = sm m fun l => (if i = l then dt m (up (col T0 B) r fun p => T0 p q) else 0) * V l k := sm_congr fun l hl => by
        rw [sm_mulr, dt_adjug hi hl]
      rw [e5, sm_one hi fun l hl hli => by rw [if_neg (fun z => hli z.symm), Int.zero_mul], if_pos rfl]
    have e6 := e3.symm.trans e1
    have e7 : T r q * (s * V i k) = T r q * (d * dt m (up (up (col T0 B) r fun p => T0 p q) i (dl k))) := by
      rw [mul3 (T r q) d, ← Int.mul_assoc d, ← e6]
      have e8 : dt m (up (col T0 B) r fun p => T0 p q) = s * T r q := by rw [hdet, ss_sq h.ss]
      rw [e8, Int.mul_comm s (T r q), Int.mul_assoc]
    exact cancel hne e7
  let U : Nat → Nat → Int := fun i k => e * s * dt m (up (up (col T0 B) r fun p => T0 p q) i (dl k))
  have hU : ∀ i, i < m → ∀ k, k < m → d * U i k = e * V i k := fun i hi k hk => by
    show d * (e * s * _) = _
    rw [mul3, ← hV i hi k hk, Int.mul_assoc, ss_sq h.ss]
  let T' : Nat → Nat → Int := fun i j => sm m fun k => U i k * T0 k j
  have hT'U : ∀ i, i < m → ∀ k, k < m → T' i (n + k) = U i k := fun i hi k hk => by
    show (sm m fun k' => U i k' * T0 k' (n + k)) = _
    rw [sm_congr fun k' hk' => by rw [h.t0 k' hk' k hk], sm_dl hk]
  have hrow : ∀ j, j ≤ n + m → T' r j = e * T r j := fun j hj => by
    refine cancel h.dne ?_
    show d * (sm m fun k => U r k * T0 k j) = _
    rw [← sm_mul, h.i1 r hr j hj, ← sm_mul, ← sm_mul]
    refine sm_congr fun k hk => ?_
    have e1 := hU r hr k hk
    have e2 : V r k = d * T r (n + k) := if_pos rfl
    rw [e2] at e1
    rw [← Int.mul_assoc, e1, mul3 d e, Int.mul_assoc e, Int.mul_assoc d]
  have hoth : ∀ i, i < m → i ≠ r → ∀ j, j ≤ n + m → d * T' i j = e * (T i j * T r q - T i q * T r j) := fun i hi hir j hj => by
    show d * (sm m fun k => U i k * T0 k j) = _
    rw [← sm_mul]
    have e1 : (sm m fun k => d * (U i k * T0 k j)) = sm m fun k => e * (T i (n + k) * T0 k j * T r q - T r (n + k) * T0 k j * T i q) := sm_congr fun k hk => by
      rw [← Int.mul_assoc, hU i hi k hk, Int.mul_assoc]
      congr 1
      have e2 : V i k = T i (n + k) * T r q - T i q * T r (n + k) := if_neg hir
      rw [e2, Int.sub_mul]
      congr 1
      · rw [Int.mul_assoc, Int.mul_comm (T r q), ← Int.mul_assoc]
      · rw [Int.mul_comm (T i q), Int.mul_assoc, Int.mul_comm (T i q), ← Int.mul_assoc]
    rw [e1, sm_mul, sm_sub, sm_mulr, sm_mulr, ← h.i1 i hi j hj, ← h.i1 r hr j hj, Int.mul_comm (T r j)]
  have hes : e ≠ 0 := by rcases he with h | h <;> rw [h] <;> decide
  refine ⟨T', ⟨?_, h.t0, ?_, ?_, ?_, ?_, ?_, ?_, ?_⟩, hrow, hoth⟩
  · exact Int.mul_ne_zero hes hne
  · intro i hi j hj
    show (sm m fun k => U i k * T0 k j) = _
    exact sm_congr fun k hk => by rw [hT'U i hi k hk]
  · intro i hi l hl
    show T' i (if l = r then q else B l) = _
    by_cases hlr : l = r
    · rw [if_pos hlr]
      by_cases hir : i = r
      · rw [hir, hrow q (by omega), hlr]; unfold dl; rw [if_pos rfl, Int.mul_one]
      · have e1 := hoth i hi hir q (by omega)
        have e2 : T' i q = 0 := cancel h.dne (by rw [e1, Int.sub_self, Int.mul_zero, Int.mul_zero])
        rw [e2]; unfold dl; rw [if_neg (by omega), Int.mul_zero]
    · rw [if_neg hlr]
      have hB := h.bl l hl
      by_cases hir : i = r
      · rw [hir, hrow (B l) (by omega), h.i2 r hr l hl]; unfold dl; rw [if_neg (fun z => hlr z.symm)]; simp
      · refine cancel h.dne ?_
        rw [hoth i hi hir (B l) (by omega), h.i2 i hi l hl, h.i2 r hr l hl]
        have e1 : dl r l = 0 := if_neg fun z => hlr z.symm
        rw [e1, Int.mul_zero, Int.mul_zero, Int.sub_zero, Int.mul_assoc d, mul3 e d, Int.mul_comm (dl i l), Int.mul_assoc e]
  · intro l hl
    show (if l = r then q else B l) < _
    split
    · exact hq
    · exact h.bl l hl
  · intro p hp k hk
    refine cancel h.dne ?_
    rw [← sm_mul]
    have e1 : (sm m fun l => d * (T0 p (if l = r then q else B l) * T' l (n + k))) = sm m fun l => e * ((up (col T0 B) r fun p => T0 p q) l p * V l k) := sm_congr fun l hl => by
      rw [hT'U l hl k hk, mul3, hU l hl k hk, mul3]
      congr 2
      unfold up col
      by_cases hlr : l = r
      · rw [if_pos hlr, if_pos hlr]
      · rw [if_neg hlr, if_neg hlr]
    rw [e1, sm_mul, ha p hp k hk, Int.mul_assoc d, mul3 e d, Int.mul_assoc e]
  · rw [hM, hdet, Int.mul_assoc]
  · intro i hi k hk
    rw [hT'U i hi k hk, hM]
  · rcases he with h1 | h1 <;> rcases h.ss with h2 | h2 <;> rw [h1, h2] <;> simp
/-- the row of costs keeps its form -/
theorem Tb.cost (h : Tb m n T0 T d B s) {r q : Nat} (hr : r < m) (hq : q < n + m) {e : Int} {T' : Nat → Nat → Int} {c : Nat → Int} {R : Nat → Int}
    (hrow : ∀ j, j ≤ n + m → T' r j = e * T r j) (hoth : ∀ i, i < m → i ≠ r → ∀ j, j ≤ n + m → d * T' i j = e * (T i j * T r q - T i q * T r j))
    (hR : ∀ j, j ≤ n + m → R j = d * c j - sm m fun l => c (B l) * T l j) {j : Nat} (hj : j ≤ n + m) :
    d * (e * T r q * c j - sm m fun l => c (if l = r then q else B l) * T' l j) = e * (R j * T r q - R q * T r j) := by
  rw [hR j hj, hR q (by omega), Int.mul_sub, ← sm_mul]
  have e1 : (sm m fun l => d * (c (if l = r then q else B l) * T' l j)) = (sm m fun l => e * (c (B l) * T l j * T r q - c (B l) * T l q * T r j)) + d * (c q * (e * T r j)) := by
    rw [sm_split hr, sm_split (f := fun l => e * (c (B l) * T l j * T r q - c (B l) * T l q * T r j)) hr]
    have z : c (B r) * T r j * T r q - c (B r) * T r q * T r j = 0 := by rw [Int.mul_assoc, Int.mul_assoc, Int.mul_comm (T r j)]; omega
    rw [z, Int.mul_zero, Int.add_zero]
    congr 1
    · refine sm_congr fun l hl => ?_
      by_cases hlr : l = r
      · rw [if_pos hlr, if_pos hlr]
      · rw [if_neg hlr, if_neg hlr, if_neg hlr, mul3, hoth l hl hlr j hj, mul3]
        congr 1
        rw [Int.mul_sub, ← Int.mul_assoc, ← Int.mul_assoc]
    · show d * (c (if r = r then q else B r) * T' r j) = _
      rw [if_pos rfl, hrow j hj]
  rw [e1, sm_mul, sm_sub, sm_mulr, sm_mulr]
  generalize (sm m fun k => c (B k) * T k j) = a
  generalize (sm m fun k => c (B k) * T k q) = b
  simp only [Int.sub_mul, Int.mul_sub]
  have k1 : d * (e * T r q * c j) = e * (d * c j * T r q) := by
    rw [Int.mul_assoc e, mul3 d e, Int.mul_comm (T r q), Int.mul_assoc d]
  have k2 : d * (c q * (e * T r j)) = e * (d * c q * T r j) := by
    rw [mul3 (c q) e, mul3 d e, Int.mul_assoc d]
  rw [k1, k2]
  omega
end
end La

set_option Elab.async false
set_option linter.all false
set_option maxRecDepth 100000
set_option maxHeartbeats 1000000
/-! Py, part Y: Bland's rule ends. -/
namespace La
structure Sta (m n : Nat) (T0 : Nat → Nat → Int) (c : Nat → Int) (T : Nat → Nat → Int) (d : Int) (B : Nat → Nat) : Prop where
  tb : ∃ s, Tb m n T0 T d B s
  dp : 0 < d
  co : ∀ j, j ≤ n + m → T m j = d * c j - sm m fun l => c (B l) * T l j
  xs : ∀ i, i < m → 0 ≤ T i (n + m)
structure Stp (m n : Nat) (T : Nat → Nat → Int) (d : Int) (B : Nat → Nat) (T' : Nat → Nat → Int) (d' : Int) (B' : Nat → Nat) (r q : Nat) : Prop where
  rm : r < m
  qn : q < n
  neg : T m q < 0
  lst : ∀ j, j < q → 0 ≤ T m j
  pos : 0 < T r q
  rat : ∀ i, i < m → 0 < T i q → T r (n + m) * T i q ≤ T i (n + m) * T r q
  tie : ∀ i, i < m → 0 < T i q → T r (n + m) * T i q = T i (n + m) * T r q → B r ≤ B i
  de : d' = T r q
  row : ∀ j, j ≤ n + m → T' r j = T r j
  oth : ∀ i, i ≤ m → i ≠ r → ∀ j, j ≤ n + m → d * T' i j = T i j * T r q - T i q * T r j
  bs : ∀ l, l < m → B' l = if l = r then q else B l
section
variable {m n : Nat} {T0 T T' : Nat → Nat → Int} {c : Nat → Int} {d d' : Int} {B B' : Nat → Nat}
theorem Sta.basic0 (h : Sta m n T0 c T d B) {l : Nat} (hl : l < m) : T m (B l) = 0 := by
  obtain ⟨s, tb⟩ := h.tb
  have hb := tb.bl l hl
  rw [h.co (B l) (by omega), sm_congr fun i hi => by rw [tb.i2 i hi l hl, mul3], sm_mul]
  have e : (sm m fun k => c (B k) * dl k l) = c (B l) := sm_dl (f := fun k => c (B k)) hl
  rw [e]; omega
theorem Tb.inj {s : Int} (h : Tb m n T0 T d B s) {i l : Nat} (hi : i < m) (hl : l < m) (e : B i = B l) : i = l := by
  have h1 := h.i2 i hi i hi
  have h2 := h.i2 i hi l hl
  rw [← e, h1] at h2
  by_cases hil : i = l
  · exact hil
  · exfalso
    have e1 : dl i i = 1 := if_pos rfl
    have e2 : dl i l = 0 := if_neg hil
    rw [e1, e2, Int.mul_one, Int.mul_zero] at h2
    exact h.dne h2
theorem Sta.det (h : Sta m n T0 c T d B) (h' : Sta m n T0 c T' d' B') (e : ∀ l, l < m → B l = B' l) : d = d' ∧ ∀ i, i ≤ m → ∀ j, j ≤ n + m → T i j = T' i j := by
  obtain ⟨s, tb⟩ := h.tb
  obtain ⟨s', tb'⟩ := h'.tb
  have hc : ∀ l, l < m → ∀ p, p < m → col T0 B l p = col T0 B' l p := fun l hl p _ => by unfold col; rw [e l hl]
  have hD : dt m (col T0 B) = dt m (col T0 B') := dt_congr hc
  have hd := tb.dd
  have hd' := tb'.dd
  have p1 := h.dp
  have p2 := h'.dp
  have hs : s = s' := by
    rw [hD] at hd
    rcases tb.ss with a | a <;> rcases tb'.ss with b | b <;> rw [a, b] <;> rw [a] at hd <;> rw [b] at hd' <;> omega
  have hde : d = d' := by rw [hd, hd', hs, hD]
  have hu : ∀ i, i < m → ∀ k, k < m → T i (n + k) = T' i (n + k) := fun i hi k hk => by
    rw [tb.ad i hi k hk, tb'.ad i hi k hk, hs]
    congr 1
    refine dt_congr fun l hl p hp => ?_
    by_cases hli : l = i
    · subst hli; rw [up_same, up_same]
    · rw [up_ne hli, up_ne hli]; exact hc l hl p hp
  have hi : ∀ i, i < m → ∀ j, j ≤ n + m → T i j = T' i j := fun i hi j hj => by
    rw [tb.i1 i hi j hj, tb'.i1 i hi j hj]
    exact sm_congr fun k hk => by rw [hu i hi k hk]
  refine ⟨hde, fun i him j hj => ?_⟩
  by_cases h1 : i < m
  · exact hi i h1 j hj
  · have e1 : i = m := by omega
    subst e1
    rw [h.co j hj, h'.co j hj, hde]
    congr 1
    exact sm_congr fun l hl => by rw [e l hl, hi l hl j hj]
theorem Sta.dual (h : Sta m n T0 c T d B) : ∃ y : Nat → Int, ∀ j, j ≤ n + m → T m j = d * c j - sm m fun k => y k * T0 k j := by
  obtain ⟨s, tb⟩ := h.tb
  refine ⟨fun k => sm m fun l => c (B l) * T l (n + k), fun j hj => ?_⟩
  rw [h.co j hj]
  congr 1
  have e1 : (sm m fun l => c (B l) * T l j) = sm m fun l => sm m fun k => c (B l) * T l (n + k) * T0 k j := sm_congr fun l hl => by
    rw [tb.i1 l hl j hj, ← sm_mul]
    exact sm_congr fun k hk => by rw [Int.mul_assoc]
  rw [e1, sm_comm]
  exact sm_congr fun k hk => by rw [sm_mulr]
/-- two tables, one direction -/
theorem Sta.cross (h : Sta m n T0 c T d B) (h' : Sta m n T0 c T' d' B') {s : Nat} (hs : s ≤ n + m) : d' * T m s - (sm m fun i => T m (B' i) * T' i s) = d * T' m s := by
  obtain ⟨y, hy⟩ := h.dual
  obtain ⟨s', tb'⟩ := h'.tb
  have e1 : (sm m fun i => T m (B' i) * T' i s) = d * (sm m fun i => c (B' i) * T' i s) - d' * sm m fun k => y k * T0 k s := by
    have e2 : (sm m fun i => T m (B' i) * T' i s) = sm m fun i => d * (c (B' i) * T' i s) - sm m fun k => y k * (T0 k (B' i) * T' i s) := sm_congr fun i hi => by
      have hb := tb'.bl i hi
      rw [hy (B' i) (by omega), Int.sub_mul, Int.mul_assoc, ← sm_mulr]
      congr 1
      exact sm_congr fun k hk => by rw [Int.mul_assoc]
    rw [e2, sm_sub, sm_mul, sm_comm]
    congr 1
    rw [← sm_mul]
    exact sm_congr fun k hk => by rw [sm_mul, tb'.rig hk hs, mul3]
  rw [e1, hy s hs, h'.co s hs, Int.mul_sub, Int.mul_sub, mul3 d' d]
  omega
end
/-! ### a run comes round: no -/
section
variable {m n : Nat} {T0 : Nat → Nat → Int} {c : Nat → Int} {T : Nat → Nat → Nat → Int} {d : Nat → Int} {B : Nat → Nat → Nat} {r q : Nat → Nat} {a b : Nat}
theorem pos_walk (hP : ∀ k, a ≤ k → k < b → Stp m n (T k) (d k) (B k) (T (k + 1)) (d (k + 1)) (B (k + 1)) (r k) (q k)) {i : Nat} (hi : i < m) : ∀ j, a + j ≤ b → (∃ k0, a ≤ k0 ∧ k0 < a + j ∧ B (a + j) i = q k0) ∨ ((∀ k0, a ≤ k0 → k0 < a + j → r k0 ≠ i) ∧ B (a + j) i = B a i) := by
  intro j
  induction j with
  | zero => intro _; exact .inr ⟨fun k0 h1 h2 => by omega, rfl⟩
  | succ j ih =>
    intro hj
    have hs := hP (a + j) (by omega) (by omega)
    have hb := hs.bs i hi
    have e : a + (j + 1) = a + j + 1 := by omega
    by_cases hr : i = r (a + j)
    · rw [if_pos hr] at hb
      exact .inl ⟨a + j, by omega, by omega, by rw [e]; exact hb⟩
    · rw [if_neg hr] at hb
      rcases ih (by omega) with ⟨k0, h1, h2, h3⟩ | ⟨h1, h2⟩
      · exact .inl ⟨k0, h1, by omega, by rw [e, hb]; exact h3⟩
      · refine .inr ⟨fun k0 h3 h4 => ?_, by rw [e, hb]; exact h2⟩
        by_cases hk : k0 = a + j
        · subst hk; exact fun z => hr z.symm
        · exact h1 k0 h3 (by omega)
theorem max_ex (f : Nat → Nat) : ∀ j, ∃ k1, a ≤ k1 ∧ k1 < a + (j + 1) ∧ ∀ k, a ≤ k → k < a + (j + 1) → f k ≤ f k1 := by
  intro j
  induction j with
  | zero => exact ⟨a, by omega, by omega, fun k h1 h2 => by rw [show k = a by omega]; exact Nat.le_refl _⟩
  | succ j ih =>
    obtain ⟨k1, h1, h2, h3⟩ := ih
    by_cases hc : f (a + (j + 1)) ≤ f k1
    · refine ⟨k1, h1, by omega, fun k h4 h5 => ?_⟩
      by_cases hk : k = a + (j + 1)
      · rw [hk]; exact hc
      · exact h3 k h4 (by omega)
    · refine ⟨a + (j + 1), by omega, by omega, fun k h4 h5 => ?_⟩
      by_cases hk : k = a + (j + 1)
      · rw [hk]; exact Nat.le_refl _
      · have := h3 k h4 (by omega); omega
theorem frac_le {x y z e f g : Int} (hf : 0 < f) (hg : 0 < g) (he : 0 < e) (h1 : x * f ≤ y * e) (h2 : y * g ≤ z * f) : x * g ≤ z * e := by
  have a1 := Int.mul_le_mul_of_nonneg_right h1 (Int.le_of_lt hg)
  have a2 := Int.mul_le_mul_of_nonneg_right h2 (Int.le_of_lt he)
  have a3 : x * g * f ≤ z * e * f := by
    rw [Int.mul_assoc, Int.mul_comm g f, ← Int.mul_assoc, Int.mul_assoc z, Int.mul_comm e f, ← Int.mul_assoc]
    rw [Int.mul_assoc y, Int.mul_comm e g, ← Int.mul_assoc] at a1
    exact Int.le_trans a1 a2
  exact Int.le_of_mul_le_mul_right a3 hf
theorem frac_lt {x y z e f g : Int} (hf : 0 < f) (hg : 0 < g) (he : 0 < e) (h1 : x * f ≤ y * e) (h2 : y * g ≤ z * f) (hs : x * f < y * e ∨ y * g < z * f) : x * g < z * e := by
  have a1 := Int.mul_le_mul_of_nonneg_right h1 (Int.le_of_lt hg)
  have a2 := Int.mul_le_mul_of_nonneg_right h2 (Int.le_of_lt he)
  have a3 : x * g * f < z * e * f := by
    rw [Int.mul_assoc, Int.mul_comm g f, ← Int.mul_assoc, Int.mul_assoc z, Int.mul_comm e f, ← Int.mul_assoc]
    rw [Int.mul_assoc y, Int.mul_comm e g, ← Int.mul_assoc] at a1
    rcases hs with hs | hs
    · have b1 := Int.mul_lt_mul_of_pos_right hs hg
      rw [Int.mul_assoc y, Int.mul_comm e g, ← Int.mul_assoc] at b1
      exact Int.lt_of_lt_of_le b1 a2
    · have b2 := Int.mul_lt_mul_of_pos_right hs he
      exact Int.lt_of_le_of_lt a1 b2
  exact Int.lt_of_mul_lt_mul_right a3 (Int.le_of_lt hf)
theorem grow (hS : ∀ k, a ≤ k → k ≤ b → Sta m n T0 c (T k) (d k) (B k)) (hP : ∀ k, a ≤ k → k < b → Stp m n (T k) (d k) (B k) (T (k + 1)) (d (k + 1)) (B (k + 1)) (r k) (q k)) :
    ∀ j, a + j ≤ b → T a m (n + m) * d (a + j) ≤ T (a + j) m (n + m) * d a ∧ ((∃ k, a ≤ k ∧ k < a + j ∧ T k (r k) (n + m) ≠ 0) → T a m (n + m) * d (a + j) < T (a + j) m (n + m) * d a) := by
  intro j
  induction j with
  | zero => intro _; exact ⟨Int.le_refl _, fun ⟨k, h1, h2, _⟩ => by omega⟩
  | succ j ih =>
    intro hj
    obtain ⟨h1, h2⟩ := ih (by omega)
    have s := hP (a + j) (by omega) (by omega)
    have t0 := hS (a + j) (by omega) (by omega)
    have t1 := hS (a + j + 1) (by omega) (by omega)
    have ta := hS a (by omega) (by omega)
    have e := s.oth m (by omega) (by have := s.rm; omega) (n + m) (by omega)
    rw [← s.de] at e
    have xr := t0.xs (r (a + j)) s.rm
    have ng := s.neg
    have hle : T (a + j) m (n + m) * d (a + j + 1) ≤ T (a + j + 1) m (n + m) * d (a + j) := by
      have := Int.mul_nonneg (show 0 ≤ - T (a + j) m (q (a + j)) by omega) xr
      rw [Int.neg_mul] at this
      rw [Int.mul_comm (T (a + j + 1) m (n + m))]
      omega
    refine ⟨frac_le t0.dp t1.dp ta.dp h1 hle, fun ⟨k, k1, k2, k3⟩ => frac_lt t0.dp t1.dp ta.dp h1 hle ?_⟩
    by_cases hk : k = a + j
    · subst hk
      refine .inr ?_
      have := Int.mul_pos (show 0 < - T (a + j) m (q (a + j)) by omega) (show 0 < T (a + j) (r (a + j)) (n + m) by omega)
      rw [Int.neg_mul] at this
      show T (a + j) m (n + m) * d (a + j + 1) < T (a + j + 1) m (n + m) * d (a + j)
      rw [Int.mul_comm (T (a + j + 1) m (n + m))]
      omega
    · exact .inl (h2 ⟨k, k1, by omega, k3⟩)
theorem bland (hab : a < b) (hS : ∀ k, a ≤ k → k ≤ b → Sta m n T0 c (T k) (d k) (B k)) (hP : ∀ k, a ≤ k → k < b → Stp m n (T k) (d k) (B k) (T (k + 1)) (d (k + 1)) (B (k + 1)) (r k) (q k)) (he : ∀ l, l < m → B a l = B b l) : False := by
  obtain ⟨hdd, hTT⟩ := (hS a (by omega) (by omega)).det (hS b (by omega) (by omega)) he
  -- nothing grows
  have hz : ∀ k, a ≤ k → k < b → T k (r k) (n + m) = 0 := fun k h1 h2 => by
    by_cases h : T k (r k) (n + m) = 0
    · exact h
    · have g := (grow hS hP (b - a) (by omega)).2 ⟨k, h1, by omega, h⟩
      rw [show a + (b - a) = b by omega, ← hdd, hTT m (by omega) (n + m) (by omega)] at g
      omega
  have hzz : ∀ i, i < m → ∀ j, a + j ≤ b → (T (a + j) i (n + m) = 0 ↔ T a i (n + m) = 0) := fun i hi j => by
    induction j with
    | zero => intro _; exact Iff.rfl
    | succ j ih =>
      intro hj
      rw [← ih (by omega)]
      have s := hP (a + j) (by omega) (by omega)
      have t0 := hS (a + j) (by omega) (by omega)
      have z := hz (a + j) (by omega) (by omega)
      show T (a + j + 1) i (n + m) = 0 ↔ _
      by_cases hr : i = r (a + j)
      · rw [hr, s.row (n + m) (by omega)]
      · have e := s.oth i (by omega) hr (n + m) (by omega)
        rw [z, Int.mul_zero, Int.sub_zero] at e
        have p := s.pos
        have dp := t0.dp
        constructor
        · intro h
          rw [h, Int.mul_zero] at e
          rcases Int.mul_eq_zero.mp e.symm with h1 | h1
          · exact h1
          · omega
        · intro h
          rw [h, Int.zero_mul] at e
          rcases Int.mul_eq_zero.mp e with h1 | h1
          · omega
          · exact h1
  -- what stands at a place that is pivoted enters somewhere
  have hF : ∀ i, i < m → (∃ k, a ≤ k ∧ k < b ∧ r k = i) → ∀ k, a ≤ k → k ≤ b → ∃ k0, a ≤ k0 ∧ k0 < b ∧ B k i = q k0 := fun i hi ⟨kp, hp1, hp2, hp3⟩ k h1 h2 => by
    have hb := pos_walk hP hi (b - a) (by omega)
    rw [show a + (b - a) = b by omega] at hb
    have hk := pos_walk hP hi (k - a) (by omega)
    rw [show a + (k - a) = k by omega] at hk
    rcases hk with ⟨k0, g1, g2, g3⟩ | ⟨g1, g2⟩
    · exact ⟨k0, g1, by omega, g3⟩
    · rcases hb with ⟨k0, e1, e2, e3⟩ | ⟨e1, _⟩
      · exact ⟨k0, e1, e2, by rw [g2, he i hi, e3]⟩
      · exact absurd hp3 (e1 kp hp1 hp2)
  have hst : ∀ i, i < m → (¬ ∃ k, a ≤ k ∧ k < b ∧ r k = i) → ∀ k, a ≤ k → k ≤ b → B k i = B a i := fun i hi hn k h1 h2 => by
    have key : ∀ j, a + j ≤ b → B (a + j) i = B a i := fun j => by
      induction j with
      | zero => intro _; rfl
      | succ j ih =>
        intro hj
        have hb := (hP (a + j) (by omega) (by omega)).bs i hi
        rw [if_neg (fun z => hn ⟨a + j, by omega, by omega, z.symm⟩)] at hb
        show B (a + j + 1) i = _
        rw [hb, ih (by omega)]
    have := key (k - a) (by omega)
    rw [show a + (k - a) = k by omega] at this
    exact this
  obtain ⟨k1, h1a, h1b, hmax⟩ := max_ex (a := a) q (b - a - 1)
  have hmax : ∀ k, a ≤ k → k < b → q k ≤ q k1 := fun k h1 h2 => hmax k h1 (by omega)
  have h1b : k1 < b := by omega
  have s1 := hP k1 h1a h1b
  have t1 := hS k1 h1a (by omega)
  -- the greatest one leaves somewhere
  have hleave : ∃ k2, a ≤ k2 ∧ k2 < b ∧ B k2 (r k2) = q k1 := by
    by_cases hex : ∃ k2, a ≤ k2 ∧ k2 < b ∧ B k2 (r k2) = q k1
    · exact hex
    · exfalso
      have stay : ∀ k, a ≤ k → k < b → B k (r k1) = q k1 → B (k + 1) (r k1) = q k1 := fun k g1 g2 g3 => by
        rw [(hP k g1 g2).bs (r k1) s1.rm]
        by_cases hr : r k1 = r k
        · exact absurd ⟨k, g1, g2, by rw [← hr]; exact g3⟩ hex
        · rw [if_neg hr]; exact g3
      have go : ∀ k, a ≤ k → B k (r k1) = q k1 → ∀ j, k + j ≤ b → B (k + j) (r k1) = q k1 := fun k g0 g1 j => by
        induction j with
        | zero => intro _; exact g1
        | succ j ih => intro hj; exact stay (k + j) (by omega) (by omega) (ih (by omega))
      have e1 : B (k1 + 1) (r k1) = q k1 := by rw [s1.bs (r k1) s1.rm, if_pos rfl]
      have e2 := go (k1 + 1) (by omega) e1 (b - (k1 + 1)) (by omega)
      rw [show k1 + 1 + (b - (k1 + 1)) = b by omega, ← he (r k1) s1.rm] at e2
      have e3 := go a (by omega) e2 (k1 - a) (by omega)
      rw [show a + (k1 - a) = k1 by omega] at e3
      have e4 := t1.basic0 s1.rm
      rw [e3] at e4
      have := s1.neg
      omega
  obtain ⟨k2, h2a, h2b, hlv⟩ := hleave
  have s2 := hP k2 h2a h2b
  have t2 := hS k2 h2a (by omega)
  obtain ⟨sg2, tb2⟩ := t2.tb
  have hs_le := hmax k2 h2a h2b
  have hs_ne : q k2 ≠ q k1 := fun z => by
    have := t2.basic0 s2.rm
    rw [hlv, ← z] at this
    have := s2.neg
    omega
  have hc := t1.cross t2 (s := q k2) (by have := s2.qn; omega)
  have hp1 : 0 ≤ d k2 * T k1 m (q k2) := Int.mul_nonneg (Int.le_of_lt t2.dp) (s1.lst (q k2) (by omega))
  have hn2 : d k1 * T k2 m (q k2) < 0 := Int.mul_neg_of_pos_of_neg t1.dp s2.neg
  obtain ⟨i, hi, hip⟩ := sm_pos_ex (n := m) (f := fun i => T k1 m (B k2 i) * T k2 i (q k2)) (by omega)
  have hne : T k1 m (B k2 i) ≠ 0 := fun z => by
    have hip' : 0 < T k1 m (B k2 i) * T k2 i (q k2) := hip
    rw [z, Int.zero_mul] at hip'; omega
  have hpv : ∃ k, a ≤ k ∧ k < b ∧ r k = i := by
    by_cases hex : ∃ k, a ≤ k ∧ k < b ∧ r k = i
    · exact hex
    · exfalso
      have e1 := hst i hi hex k1 h1a (by omega)
      have e2 := hst i hi hex k2 h2a (by omega)
      have e3 := t1.basic0 hi
      rw [e1, ← e2] at e3
      exact hne e3
  obtain ⟨k0, g1, g2, g3⟩ := hF i hi hpv k2 h2a (by omega)
  have hule := hmax k0 g1 g2
  rw [← g3] at hule
  have hip' : 0 < T k1 m (B k2 i) * T k2 i (q k2) := hip
  by_cases hut : B k2 i = q k1
  · have hir : i = r k2 := tb2.inj hi s2.rm (by rw [hut, hlv])
    rw [hut, hir] at hip'
    have := Int.mul_neg_of_neg_of_pos s1.neg s2.pos
    omega
  · have hu0 := s1.lst (B k2 i) (by omega)
    have hTi : 0 < T k2 i (q k2) := by
      by_cases h : 0 < T k2 i (q k2)
      · exact h
      · exfalso
        have := Int.mul_nonneg hu0 (show 0 ≤ - T k2 i (q k2) by omega)
        rw [Int.mul_neg] at this
        omega
    obtain ⟨kp, p1, p2, p3⟩ := hpv
    have z0 : T k2 i (n + m) = 0 := by
      have e1 := hzz i hi (k2 - a) (by omega)
      have e2 := hzz i hi (kp - a) (by omega)
      rw [show a + (k2 - a) = k2 by omega] at e1
      rw [show a + (kp - a) = kp by omega] at e2
      refine e1.mpr (e2.mp ?_)
      have := hz kp p1 p2
      rw [p3] at this
      exact this
    have z1 := hz k2 h2a h2b
    have := s2.tie i hi hTi (by rw [z0, z1, Int.zero_mul, Int.zero_mul])
    rw [hlv] at this
    omega
end
/-! ### how many bases there are -/
def cd (w : Nat) : Nat → (Nat → Nat) → Nat
  | 0, _ => 0
  | k + 1, B => cd w k B * w + B k
theorem cd_lt {w : Nat} : ∀ {k : Nat} {B : Nat → Nat}, (∀ l, l < k → B l < w) → cd w k B < w ^ k := by
  intro k
  induction k with
  | zero => intro B _; exact Nat.one_pos
  | succ k ih =>
    intro B h
    have h1 := ih fun l hl => h l (by omega)
    have h2 := h k (by omega)
    show cd w k B * w + B k < w ^ k * w
    have h3 : (cd w k B + 1) * w ≤ w ^ k * w := Nat.mul_le_mul_right w h1
    rw [Nat.add_mul, Nat.one_mul] at h3
    omega
theorem cd_inj {w : Nat} : ∀ {k : Nat} {B B' : Nat → Nat}, (∀ l, l < k → B l < w) → (∀ l, l < k → B' l < w) → cd w k B = cd w k B' → ∀ l, l < k → B l = B' l := by
  intro k
  induction k with
  | zero => intro B B' _ _ _ l hl; omega
  | succ k ih =>
    intro B B' h h' e
    have h2 := h k (by omega)
    have h3 := h' k (by omega)
    have e' : cd w k B * w + B k = cd w k B' * w + B' k := e
    have e1 : B k = B' k := by
      have a1 : (cd w k B * w + B k) % w = B k := by rw [Nat.mul_add_mod_self_right]; exact Nat.mod_eq_of_lt h2
      have a2 : (cd w k B' * w + B' k) % w = B' k := by rw [Nat.mul_add_mod_self_right]; exact Nat.mod_eq_of_lt h3
      rw [← a1, ← a2, e']
    have e2 : cd w k B = cd w k B' := Nat.eq_of_mul_eq_mul_right (show 0 < w by omega) (by omega)
    intro l hl
    by_cases hk : l = k
    · rw [hk]; exact e1
    · exact ih (fun l hl => h l (by omega)) (fun l hl => h' l (by omega)) e2 l (by omega)
theorem pig : ∀ (N : Nat) (f : Nat → Nat), (∀ k, k ≤ N → f k < N) → ∃ a b, a < b ∧ b ≤ N ∧ f a = f b := by
  intro N
  induction N with
  | zero => intro f h; have := h 0 (by omega); omega
  | succ N ih =>
    intro f h
    by_cases hex : ∃ a, a ≤ N ∧ f a = f (N + 1)
    · obtain ⟨a, h1, h2⟩ := hex
      exact ⟨a, N + 1, by omega, by omega, h2⟩
    · have hne : ∀ k, k ≤ N → f k ≠ f (N + 1) := fun k hk z => hex ⟨k, hk, z⟩
      obtain ⟨a, b, h1, h2, h3⟩ := ih (fun k => if f (N + 1) < f k then f k - 1 else f k) fun k hk => by
        have e1 := h k (by omega)
        have e2 := hne k hk
        have e3 := h (N + 1) (by omega)
        show (if f (N + 1) < f k then f k - 1 else f k) < N
        split <;> omega
      refine ⟨a, b, h1, by omega, ?_⟩
      have a1 := hne a (by omega)
      have b1 := hne b (by omega)
      have h3' : (if f (N + 1) < f a then f a - 1 else f a) = (if f (N + 1) < f b then f b - 1 else f b) := h3
      split at h3' <;> split at h3' <;> omega
theorem bland_ends {m n : Nat} {T0 : Nat → Nat → Int} {c : Nat → Int} {T : Nat → Nat → Nat → Int} {d : Nat → Int} {B : Nat → Nat → Nat} {r q : Nat → Nat}
    (hS : ∀ k, k ≤ (n + m) ^ m → Sta m n T0 c (T k) (d k) (B k)) (hP : ∀ k, k < (n + m) ^ m → Stp m n (T k) (d k) (B k) (T (k + 1)) (d (k + 1)) (B (k + 1)) (r k) (q k)) : False := by
  have hw : ∀ k, k ≤ (n + m) ^ m → ∀ l, l < m → B k l < n + m := fun k hk l hl => by
    obtain ⟨s, tb⟩ := (hS k hk).tb
    exact tb.bl l hl
  obtain ⟨a, b, h1, h2, h3⟩ := pig ((n + m) ^ m) (fun k => cd (n + m) m (B k)) fun k hk => cd_lt (hw k hk)
  exact bland (a := a) (b := b) h1 (fun k _ hk => hS k (by omega)) (fun k _ hk => hP k (by omega)) (cd_inj (hw a (by omega)) (hw b h2) h3)
end La

set_option Elab.async false
set_option linter.all false
set_option maxRecDepth 100000
set_option maxHeartbeats 1000000
/-! Py, part R: what a table proves: prices, amounts, ways. -/
namespace La
section
variable {m n : Nat} {T0 T : Nat → Nat → Int} {c R : Nat → Int} {d : Int} {B : Nat → Nat} {s : Int}
theorem tb_first (h : ∀ k, k < m → ∀ k', k' < m → T0 k (n + k') = dl k k') : Tb m n T0 T0 1 (fun l => n + l) 1 where
  dne := by decide
  t0 := h
  i1 i hi j hj := by
    rw [sm_congr (g := fun k => dl i k * T0 k j) fun k hk => by rw [h i hi k hk], sm_dl2 hi]
  i2 i hi l hl := by rw [h i hi l hl, Int.one_mul]
  bl l hl := by omega
  ri p hp k hk := by
    rw [sm_congr (g := fun l => dl p l * T0 l (n + k)) fun l hl => by rw [h p hp l hl], sm_dl2 hp, h p hp k hk, Int.one_mul]
  dd := by
    rw [Int.one_mul]
    have e : dt m (col T0 fun l => n + l) = dt m dl := dt_congr fun l hl p hp => by
      show T0 p (n + l) = dl l p
      rw [h p hp l hl, dl_comm]
    rw [e, dt_id]
  ad i hi k hk := by
    rw [Int.one_mul, h i hi k hk]
    have e : dt m (up (col T0 fun l => n + l) i (dl k)) = dt m (up dl i (dl k)) := dt_congr fun l hl p hp => by
      by_cases hl2 : l = i
      · rw [hl2, up_same, up_same]
      · rw [up_ne hl2, up_ne hl2]
        show T0 p (n + l) = dl l p
        rw [h p hp l hl, dl_comm]
    rw [e]
    by_cases hik : i = k
    · subst hik
      rw [up_self, dt_id]
      unfold dl; rw [if_pos rfl]
    · rw [dt_eq hi hk hik fun r hr => by rw [up_same, up_ne fun z => hik z.symm]]
      unfold dl; rw [if_neg hik]
  ss := .inl rfl
/-- the row of costs by prices -/
theorem Tb.duals (h : Tb m n T0 T d B s) (hR : ∀ j, j ≤ n + m → R j = d * c j - sm m fun l => c (B l) * T l j) {j : Nat} (hj : j ≤ n + m) :
    (sm m fun k => (d * c (n + k) - R (n + k)) * T0 k j) = d * c j - R j := by
  have e1 : (sm m fun k => (d * c (n + k) - R (n + k)) * T0 k j) = sm m fun k => sm m fun l => c (B l) * T l (n + k) * T0 k j := sm_congr fun k hk => by
    rw [hR (n + k) (by omega), sm_mulr]
    congr 1
    omega
  rw [e1, sm_comm, hR j hj]
  have e2 : (sm m fun l => sm m fun k => c (B l) * T l (n + k) * T0 k j) = sm m fun l => c (B l) * T l j := sm_congr fun l hl => by
    rw [h.i1 l hl j hj, ← sm_mul]
    exact sm_congr fun k hk => by rw [Int.mul_assoc]
  rw [e2]
  omega
/-- what the basis says at j -/
def at_ (m : Nat) (B : Nat → Nat) (w : Nat → Int) (j : Nat) : Int := sm m fun l => if B l = j then w l else 0
theorem sm_at {g w : Nat → Int} : (sm n fun j => g j * at_ m B w j) = sm m fun l => if B l < n then g (B l) * w l else 0 := by
  unfold at_
  rw [sm_congr (g := fun j => sm m fun l => g j * if B l = j then w l else 0) fun j hj => sm_mul.symm, sm_comm]
  refine sm_congr fun l hl => ?_
  by_cases hb : B l < n
  · rw [if_pos hb, sm_one hb fun k hk hne => by rw [if_neg (fun z => hne z.symm), Int.mul_zero], if_pos rfl]
  · rw [if_neg hb]
    exact sm_zero fun k hk => by rw [if_neg (by omega), Int.mul_zero]
theorem at_nonneg {w : Nat → Int} {j : Nat} (h : ∀ l, l < m → B l = j → 0 ≤ w l) : 0 ≤ at_ m B w j := sm_nonneg fun l hl => by
  by_cases e : B l = j
  · rw [if_pos e]; exact h l hl e
  · rw [if_neg e]; decide
theorem sm_real {g w : Nat → Int} (z : ∀ l, l < m → n ≤ B l → w l = 0) : (sm m fun l => if B l < n then g (B l) * w l else 0) = sm m fun l => g (B l) * w l := sm_congr fun l hl => by
  by_cases hb : B l < n
  · rw [if_pos hb]
  · rw [if_neg hb, z l hl (by omega), Int.mul_zero]
/-- the amounts meet the ends -/
theorem Tb.meets (h : Tb m n T0 T d B s) (z : ∀ l, l < m → n ≤ B l → T l (n + m) = 0) {k : Nat} (hk : k < m) :
    (sm n fun j => T0 k j * at_ m B (fun l => T l (n + m)) j) = d * T0 k (n + m) := by
  rw [sm_at, sm_real z]
  exact h.rig hk (Nat.le_refl _)
theorem Tb.worth (hR : ∀ j, j ≤ n + m → R j = d * c j - sm m fun l => c (B l) * T l j) (z : ∀ l, l < m → n ≤ B l → T l (n + m) = 0) (c0 : c (n + m) = 0) :
    (sm n fun j => c j * at_ m B (fun l => T l (n + m)) j) = - R (n + m) := by
  rw [sm_at, sm_real z, hR _ (Nat.le_refl _), c0, Int.mul_zero]
  omega
/-- the way out -/
theorem Tb.way (h : Tb m n T0 T d B s) {q : Nat} (hq : q < n) (z : ∀ l, l < m → n ≤ B l → T l q = 0) (hb : ∀ l, l < m → B l ≠ q) {k : Nat} (hk : k < m) :
    (sm n fun j => T0 k j * (if j = q then d else at_ m B (fun l => - T l q) j)) = 0 := by
  have e0 : at_ m B (fun l => - T l q) q = 0 := sm_zero fun l hl => if_neg (hb l hl)
  have e1 : (sm n fun j => T0 k j * (if j = q then d else at_ m B (fun l => - T l q) j)) = (sm n fun j => T0 k j * at_ m B (fun l => - T l q) j) + T0 k q * d := by
    rw [sm_split hq, sm_split (f := fun j => T0 k j * at_ m B (fun l => - T l q) j) hq, e0, Int.mul_zero, Int.add_zero, if_pos rfl]
    congr 1
    exact sm_congr fun j hj => by
      by_cases hjq : j = q
      · rw [if_pos hjq, if_pos hjq]
      · rw [if_neg hjq, if_neg hjq, if_neg hjq]
  rw [e1, sm_at, sm_real (fun l hl hn => by rw [z l hl hn]; rfl)]
  have e2 : (sm m fun l => T0 k (B l) * - T l q) = - sm m fun l => T0 k (B l) * T l q := by
    rw [← sm_neg]
    exact sm_congr fun l hl => by rw [Int.mul_neg]
  rw [e2, h.rig hk (by omega), Int.mul_comm (T0 k q)]
  omega
theorem Tb.wayCost (hR : ∀ j, j ≤ n + m → R j = d * c j - sm m fun l => c (B l) * T l j) {q : Nat} (hq : q < n) (z : ∀ l, l < m → n ≤ B l → T l q = 0) (hb : ∀ l, l < m → B l ≠ q) :
    (sm n fun j => c j * (if j = q then d else at_ m B (fun l => - T l q) j)) = R q := by
  have e0 : at_ m B (fun l => - T l q) q = 0 := sm_zero fun l hl => if_neg (hb l hl)
  have e1 : (sm n fun j => c j * (if j = q then d else at_ m B (fun l => - T l q) j)) = (sm n fun j => c j * at_ m B (fun l => - T l q) j) + c q * d := by
    rw [sm_split hq, sm_split (f := fun j => c j * at_ m B (fun l => - T l q) j) hq, e0, Int.mul_zero, Int.add_zero, if_pos rfl]
    congr 1
    exact sm_congr fun j hj => by
      by_cases hjq : j = q
      · rw [if_pos hjq, if_pos hjq]
      · rw [if_neg hjq, if_neg hjq, if_neg hjq]
  rw [e1, sm_at, sm_real (fun l hl hn => by rw [z l hl hn]; rfl), hR q (by omega)]
  have e2 : (sm m fun l => c (B l) * - T l q) = - sm m fun l => c (B l) * T l q := by
    rw [← sm_neg]
    exact sm_congr fun l hl => by rw [Int.mul_neg]
  rw [e2, Int.mul_comm (c q)]
  omega
/-- the first leg: costs 1 on what is artificial -/
def c1 (n m : Nat) (j : Nat) : Int := if n ≤ j ∧ j < n + m then 1 else 0
theorem first_cost (hB : ∀ l, l < m → B l < n + m) {j : Nat} (hj : j < n ∨ j = n + m) (hR : R j = d * c1 n m j - sm m fun l => c1 n m (B l) * T l j) : R j = - sm m fun l => if n ≤ B l then T l j else 0 := by
  rw [hR, show c1 n m j = 0 from if_neg (by omega), Int.mul_zero, Int.zero_sub]
  congr 1
  exact sm_congr fun l hl => by
    unfold c1
    by_cases h : n ≤ B l
    · rw [if_pos ⟨h, hB l hl⟩, if_pos h, Int.one_mul]
    · rw [if_neg (fun z => h z.1), if_neg h, Int.zero_mul]
/-- .. is never without end -/
theorem first_ends (hB : ∀ l, l < m → B l < n + m) {q : Nat} (hq : q < n) (hR : R q = d * c1 n m q - sm m fun l => c1 n m (B l) * T l q) (h : ∀ l, l < m → T l q ≤ 0) : 0 ≤ R q := by
  rw [first_cost hB (.inl hq) hR, ← sm_neg]
  refine sm_nonneg fun l hl => ?_
  have := h l hl
  split <;> omega
theorem first_zero (hB : ∀ l, l < m → B l < n + m) (hR : R (n + m) = d * c1 n m (n + m) - sm m fun l => c1 n m (B l) * T l (n + m)) (h : ∀ l, l < m → 0 ≤ T l (n + m)) (hz : 0 ≤ R (n + m)) : ∀ l, l < m → n ≤ B l → T l (n + m) = 0 := by
  have e := first_cost hB (.inr rfl) hR
  intro l hl hn
  have := sm_zero_all (f := fun l => if n ≤ B l then T l (n + m) else 0) (n := m) (fun l hl => by
    show 0 ≤ if n ≤ B l then T l (n + m) else 0
    have := h l hl
    split <;> omega) (by omega) l hl
  rw [if_pos hn] at this
  exact this
end
end La

set_option Elab.async false
set_option linter.all false
set_option maxRecDepth 100000
set_option maxHeartbeats 4000000
namespace Lw
open PySem PySem.Spec L2 Py
def topS (i : Nat) : Stmt := PySem.Challenge.pw_judgesandtrees_k05_least_cost_of_one_kin.main.body.getD i (.Pass ⟨0, 0, 0, 0⟩)
/-- what the top leaves -/
structure Fx (P : Program) (K : PySem.W.Frag) (mg : Str → Option Value) : Prop where
  d_clear_column : ∃ fd, FunD K "clear_column" "clear_column" (defArgs (topS 1)) (defBody (topS 1)) (defScope (topS 1)) [] [] (He.ga K "clear_column") fd
  g_clear_column : mg "clear_column" = some (.ref (He.ga K "clear_column"))
  d__first_table : ∃ fd, FunD K "_first_table" "_first_table" (defArgs (topS 4)) (defBody (topS 4)) (defScope (topS 4)) [] [] (He.ga K "_first_table") fd
  g__first_table : mg "_first_table" = some (.ref (He.ga K "_first_table"))
  d__entering : ∃ fd, FunD K "_entering" "_entering" (defArgs (topS 6)) (defBody (topS 6)) (defScope (topS 6)) [] [] (He.ga K "_entering") fd
  g__entering : mg "_entering" = some (.ref (He.ga K "_entering"))
  d__leaving : ∃ fd, FunD K "_leaving" "_leaving" (defArgs (topS 7)) (defBody (topS 7)) (defScope (topS 7)) [] [] (He.ga K "_leaving") fd
  g__leaving : mg "_leaving" = some (.ref (He.ga K "_leaving"))
  d__improve : ∃ fd, FunD K "_improve" "_improve" (defArgs (topS 5)) (defBody (topS 5)) (defScope (topS 5)) [] [] (He.ga K "_improve") fd
  g__improve : mg "_improve" = some (.ref (He.ga K "_improve"))
  d__drive_out : ∃ fd, FunD K "_drive_out" "_drive_out" (defArgs (topS 8)) (defBody (topS 8)) (defScope (topS 8)) [] [] (He.ga K "_drive_out") fd
  g__drive_out : mg "_drive_out" = some (.ref (He.ga K "_drive_out"))
  d__cost_row : ∃ fd, FunD K "_cost_row" "_cost_row" (defArgs (topS 9)) (defBody (topS 9)) (defScope (topS 9)) [] [] (He.ga K "_cost_row") fd
  g__cost_row : mg "_cost_row" = some (.ref (He.ga K "_cost_row"))
  d__way : ∃ fd, FunD K "_way" "_way" (defArgs (topS 10)) (defBody (topS 10)) (defScope (topS 10)) [] [] (He.ga K "_way") fd
  g__way : mg "_way" = some (.ref (He.ga K "_way"))
  d_least_cost : ∃ fd, FunD K "least_cost" "least_cost" (defArgs (topS 3)) (defBody (topS 3)) (defScope (topS 3)) [] [] (He.ga K "least_cost") fd
  g_least_cost : mg "least_cost" = some (.ref (He.ga K "least_cost"))
  d__law_is_whole : ∃ fd, FunD K "_law_is_whole" "_law_is_whole" (defArgs (topS 12)) (defBody (topS 12)) (defScope (topS 12)) [] [] (He.ga K "_law_is_whole") fd
  g__law_is_whole : mg "_law_is_whole" = some (.ref (He.ga K "_law_is_whole"))
  d__law_cell : ∃ fd, FunD K "_law_cell" "_law_cell" (defArgs (topS 13)) (defBody (topS 13)) (defScope (topS 13)) [] [] (He.ga K "_law_cell") fd
  g__law_cell : mg "_law_cell" = some (.ref (He.ga K "_law_cell"))
  d__law_many : ∃ fd, FunD K "_law_many" "_law_many" (defArgs (topS 14)) (defBody (topS 14)) (defScope (topS 14)) [] [] (He.ga K "_law_many") fd
  g__law_many : mg "_law_many" = some (.ref (He.ga K "_law_many"))
  d__law_short : ∃ fd, FunD K "_law_short" "_law_short" (defArgs (topS 15)) (defBody (topS 15)) (defScope (topS 15)) [] [] (He.ga K "_law_short") fd
  g__law_short : mg "_law_short" = some (.ref (He.ga K "_law_short"))
  d__law_value : ∃ fd, FunD K "_law_value" "_law_value" (defArgs (topS 16)) (defBody (topS 16)) (defScope (topS 16)) [] [] (He.ga K "_law_value") fd
  g__law_value : mg "_law_value" = some (.ref (He.ga K "_law_value"))
  d__law_whole_list : ∃ fd, FunD K "_law_whole_list" "_law_whole_list" (defArgs (topS 17)) (defBody (topS 17)) (defScope (topS 17)) [] [] (He.ga K "_law_whole_list") fd
  g__law_whole_list : mg "_law_whole_list" = some (.ref (He.ga K "_law_whole_list"))
  d__law_column : ∃ fd, FunD K "_law_column" "_law_column" (defArgs (topS 18)) (defBody (topS 18)) (defScope (topS 18)) [] [] (He.ga K "_law_column") fd
  g__law_column : mg "_law_column" = some (.ref (He.ga K "_law_column"))
  d__law_none : ∃ fd, FunD K "_law_none" "_law_none" (defArgs (topS 19)) (defBody (topS 19)) (defScope (topS 19)) [] [] (He.ga K "_law_none") fd
  g__law_none : mg "_law_none" = some (.ref (He.ga K "_law_none"))
  d__law_meets : ∃ fd, FunD K "_law_meets" "_law_meets" (defArgs (topS 20)) (defBody (topS 20)) (defScope (topS 20)) [] [] (He.ga K "_law_meets") fd
  g__law_meets : mg "_law_meets" = some (.ref (He.ga K "_law_meets"))
  d__law_right : ∃ fd, FunD K "_law_right" "_law_right" (defArgs (topS 21)) (defBody (topS 21)) (defScope (topS 21)) [] [] (He.ga K "_law_right") fd
  g__law_right : mg "_law_right" = some (.ref (He.ga K "_law_right"))
  d__law_plain : ∃ fd, FunD K "_law_plain" "_law_plain" (defArgs (topS 22)) (defBody (topS 22)) (defScope (topS 22)) [] [] (He.ga K "_law_plain") fd
  g__law_plain : mg "_law_plain" = some (.ref (He.ga K "_law_plain"))
  d_law : ∃ fd, FunD K "law" "law" (defArgs (topS 23)) (defBody (topS 23)) (defScope (topS 23)) [] [] (He.ga K "law") fd
  g_law : mg "law" = some (.ref (He.ga K "law"))
  n_abs : mg "abs" = none
  n_bool : mg "bool" = none
  n_enumerate : mg "enumerate" = none
  n_int : mg "int" = none
  n_isinstance : mg "isinstance" = none
  n_len : mg "len" = none
  n_list : mg "list" = none
  n_range : mg "range" = none
  n_sum : mg "sum" = none
  n_tuple : mg "tuple" = none
  n_zip : mg "zip" = none
def m_clear_column (table : List (List Int)) (row : Int) (column : Int) (bottom : Int) : Res (Int × (List (List Int))) :=
  (Res.bind (idxM table row) fun chosen1 => (Res.bind (idxM chosen1 column) fun peak2 => (Res.bind (Res.bind (guardR (inRange (table.length : Int)) (Res.ok (rng 0 (table.length : Int)))) fun z21 => forR (fun (r3 : (List (List Int))) at'4 => (Res.bind (Res.bind (idxM r3 at'4) fun x6 => Res.bind (Res.ok column) fun y7 => idxM x6 y7) fun factor5 => (Res.bind (if ((!decide (at'4 = row)) && ((!decide (factor5 = 0)) || (!decide (peak2 = bottom)))) then (Res.bind (Res.bind (Res.bind (Res.bind (idxM r3 at'4) fun x9 => Res.bind (Res.ok chosen1) fun y10 => Res.ok (x9.zip y10)) fun z17 => lcX (fun _ => Res.ok true) (fun v12 => (Res.bind (Res.bind (mulM v12.1 peak2) fun x13 => Res.bind (mulM factor5 v12.2) fun y14 => Res.ok (x13 - y14)) fun x15 => Res.bind (Res.ok bottom) fun y16 => divM x15 y16)) z17) fun a19 => Res.bind (Res.ok at'4) fun b20 => setM r3 b20 a19) fun table18 => (Res.ok table18)) else (Res.ok r3)) fun r8 => (Res.ok r8)))) z21 table) fun r3 => (Res.ok (peak2, r3)))))
abbrev s_clear_column : Stmt := topS 1
theorem sc_clear_column : FnScope ["table", "row", "column", "bottom", "chosen", "peak", "at", "factor", "entry", "other"] ["table", "row", "column", "bottom"] (defScope s_clear_column) := ⟨rfl, rfl, rfl, by decide +kernel, rfl, by decide +kernel, by decide +kernel⟩
theorem ok_clear_column {P : Program} {w : World} {K : PySem.W.Frag} {mg : Str → Option Value} {base : Heap} (G : Fx P K mg) : FOk P w K mg base "clear_column" 1 (spM1 K (asC (T := Int) (asC (T := Int) (asC (T := Int) asN))) (fun u : (List (List Int)) × (Int × Int × Int × Unit) => m_clear_column u.1 u.2.1 u.2.2.1 u.2.2.2.1)) := by
  obtain ⟨fd, F⟩ := G.d_clear_column
  refine fok_m1 (ρ0 := fun ad0 u => [.own (List Int) (some ad0) u.1, .val Int u.2.1, .val Int u.2.2.1, .val Int u.2.2.2.1, .non, .non, .non, .non, .non, .non]) (sl := fun ad0 y => [.own (List Int) (some ad0) y, .non, .non, .non, .non, .non, .non, .non, .non, .non]) F G.g_clear_column sc_clear_column (F.bindsN (ps := ["table", "row", "column", "bottom"]) fun _ _ _ _ _ _ us hl => match us, hl with | [_, _, _, _], _ => rfl) (by intro _; rfl) (by intros; rfl) (by intros; exact ⟨_, rfl⟩) fun cdv A outer s H E C => ?_
  rintro ad0 ⟨table, row, column, bottom, ⟨⟩⟩
  show SR _ _ none [.own (List Int) (some ad0) table, .val Int row, .val Int column, .val Int bottom, .non, .non, .non, .non, .non, .non] _ (retM Int (fun y => [.own (List Int) (some ad0) y, .non, .non, .non, .non, .non, .non, .non, .non, .non])) (m_clear_column table row column bottom)
  unfold m_clear_column
  exact (r_cons (n_set 4 (n3 := fun chosen1 => [.own (List Int) (some ad0) table, .val Int row, .val Int column, .val Int bottom, .val (List Int) chosen1, .non, .non, .non, .non, .non]) C.nd (e_ixp (l_own 0) (e_var 1))) fun chosen1 => (r_cons (n_set 5 (n3 := fun peak2 => [.own (List Int) (some ad0) table, .val Int row, .val Int column, .val Int bottom, .val (List Int) chosen1, .val Int peak2, .non, .non, .non, .non]) C.nd (e_ixp (EG.lg (e_var 4)) (e_var 2))) fun peak2 => (r_cons (n_for (ρl := fun (r3 : (List (List Int))) => [.own (List Int) (some ad0) r3, .val Int row, .val Int column, .val Int bottom, .val (List Int) chosen1, .val Int peak2, .non, .non, .non, .non]) (s0 := table) C (i_range1p (e_lenl (l_own 0) G.n_len) G.n_range) (g_name 6 C.nd) (.s (.s (.s (.s (.s (.s (.n (.n (.n (.n .nil)))))))))) (fun r3 at'4 => b_at [.own (List Int) (some ad0) r3, .val Int row, .val Int column, .val Int bottom, .val (List Int) chosen1, .val Int peak2, .val Int at'4, .non, .non, .non] (b_cons (n_set 7 (n3 := fun factor5 => [.own (List Int) (some ad0) r3, .val Int row, .val Int column, .val Int bottom, .val (List Int) chosen1, .val Int peak2, .val Int at'4, .val Int factor5, .non, .non]) C.nd (e_ix (EG.lg (e_ixp (l_own 0) (e_var 6))) (e_var 2))) fun factor5 => (b_cons (n_ifp (n := fun (r8 : (List (List Int))) => [.own (List Int) (some ad0) r8, .val Int row, .val Int column, .val Int bottom, .val (List Int) chosen1, .val Int peak2, .val Int at'4, .val Int factor5, .non, .non]) (TWJ.pt (tw_andp (CJ.t (e_nep (e_var 6) (e_var 1))) (tw_and1 (TWJ.pt (tw_orp (CJ.t (e_nep (e_var 7) e_int)) (tw_or1 (CJ.t (e_nep (e_var 5) (e_var 3))))))))) (b_cons (n_setix 0 (n3 := fun table18 => [.own (List Int) (some ad0) table18, .val Int row, .val Int column, .val Int bottom, .val (List Int) chosen1, .val Int peak2, .val Int at'4, .val Int factor5, .non, .non]) (FG.ej (f_lc (ow := [(Str.ofString "entry", 8), (Str.ofString "other", 9)]) (ρw := [.own (List Int) (some ad0) r3, .val Int row, .val Int column, .val Int bottom, .val (List Int) chosen1, .val Int peak2, .val Int at'4, .val Int factor5, .non, .non]) C (i_zip (e_ixp (l_own 0) (e_var 6)) (e_var 4) G.n_zip) (fun s H Cc cl fp => ⟨(g_pair C.blk.calm (g_name 8 C.blk.nd) (g_name 9 C.blk.nd)), fun _ => lc_none, fun v12 => e_at [.own (List Int) (some ad0) r3, .val Int row, .val Int column, .val Int bottom, .val (List Int) chosen1, .val Int peak2, .val Int at'4, .val Int factor5, .val Int v12.1, .val Int v12.2] (e_fdiv (e_sub (e_mulp (e_var 8) (e_var 5)) (e_mulp (e_var 7) (e_var 9))) (e_var 3))⟩))) (e_var 6)) fun table18 => (b_nil (.s (.s (.s (.s (.s (.s (.s (.s (.n (.n .nil)))))))))))) (b_nil (.s (.s (.s (.s (.s (.s (.s (.s (.n (.n .nil)))))))))))) fun r8 => (b_nil (.s (.s (.s (.s (.s (.s (.n (.n (.n (.n .nil))))))))))))))) fun r3 => (r_retMp r3 (e_var 5) (.s (.n (.n (.n (.n (.n (.n (.n (.n (.n .nil))))))))))))))
def m__first_table (rows : List (List Int)) (ends : List Int) (turns : List Int) (width : Int) : Res ((List (List Int)) × (List Int)) :=
  (Res.bind (Res.ok (ends.length : Int)) fun height1 => (Res.bind (Res.ok ([] : List (List Int))) fun table2 => (Res.bind (Res.bind (Res.ok (enumL turns)) fun z21 => forR (fun (r3 : (List (List Int))) v4 => (Res.bind (Res.bind (guardR (inRange height1) (Res.ok (rng 0 height1))) fun z8 => lcX (fun _ => Res.ok true) (fun other7 => (Res.ok (if (decide (other7 = v4.1)) then 1 else 0))) z8) fun units5 => (Res.bind (Res.bind (Res.bind (Res.bind (Res.bind (idxM rows v4.1) fun z11 => lcX (fun _ => Res.ok true) (fun entry10 => (mulM v4.2 entry10)) z11) fun x12 => Res.bind (Res.ok units5) fun y13 => catM x12 y13) fun x17 => Res.bind (Res.bind (Res.bind (Res.ok v4.2) fun x14 => Res.bind (idxM ends v4.1) fun y15 => mulM x14 y15) fun a16 => Res.ok [a16]) fun y18 => catM x17 y18) fun y20 => appM r3 y20) fun table19 => (Res.ok table19)))) z21 table2) fun r3 => (Res.bind (((Res.bind (guardR (inRange width) (Res.ok (rng 0 width))) fun z30 => lcX (fun _ => Res.ok true) (fun column24 => (Res.bind (Res.bind (Res.bind (Res.ok r3) fun z27 => lcX (fun _ => Res.ok true) (fun row26 => (idxM row26 column24)) z27) fun x28 => Res.ok x28.sum) fun x29 => Res.ok (-x29))) z30)).quiet) fun costs22 => (Res.bind (((Res.bind (Res.bind (Res.bind (Res.ok r3) fun z34 => lcX (fun _ => Res.ok true) (fun row33 => (idxM row33 (-1))) z34) fun x35 => Res.ok x35.sum) fun x36 => Res.ok (-x36))).quiet) fun last31 => (Res.bind (Res.bind (Res.bind (Res.bind (Res.ok costs22) fun x37 => Res.bind (repM [0] height1) fun y38 => catM x37 y38) fun x39 => Res.bind (Res.ok [last31]) fun y40 => catM x39 y40) fun y42 => appM r3 y42) fun table41 => (Res.bind (Res.bind (Res.ok table41) fun a => Res.bind (Res.bind (Res.bind (guardR (inRange height1) (Res.ok (rng 0 height1))) fun z45 => lcX (fun _ => Res.ok true) (fun at'44 => (Res.ok (width + at'44))) z45) fun a => Res.bind (Res.ok ()) fun b => Res.ok (a, b)) fun b => Res.ok (a, b)) fun p => Res.ok (p.1, p.2.1))))))))
abbrev s__first_table : Stmt := topS 4
theorem sc__first_table : FnScope ["rows", "ends", "turns", "width", "height", "table", "at", "turn", "units", "costs", "last", "column", "other", "row", "entry"] ["rows", "ends", "turns", "width"] (defScope s__first_table) := ⟨rfl, rfl, rfl, by decide +kernel, rfl, by decide +kernel, by decide +kernel⟩
theorem ok__first_table {P : Program} {w : World} {K : PySem.W.Frag} {mg : Str → Option Value} {base : Heap} (G : Fx P K mg) : FOk P w K mg base "_first_table" 1 (spX K (fun r : ((List (List Int)) × (List Int)) => (.tup [.lst (List Int) r.1, .lst Int r.2])) (asC (T := (List (List Int))) (asC (T := (List Int)) (asC (T := (List Int)) (asC (T := Int) asN)))) (fun u : (List (List Int)) × (List Int) × (List Int) × Int × Unit => m__first_table u.1 u.2.1 u.2.2.1 u.2.2.2.1)) := by
  obtain ⟨fd, F⟩ := G.d__first_table
  refine fok_x (ρ0 := fun u : (List (List Int)) × (List Int) × (List Int) × Int × Unit => [.val (List (List Int)) u.1, .val (List Int) u.2.1, .val (List Int) u.2.2.1, .val Int u.2.2.2.1, .non, .non, .non, .non, .non, .non, .non, .non, .non, .non, .non]) F G.g__first_table sc__first_table (F.bindsN (ps := ["rows", "ends", "turns", "width"]) fun _ _ _ _ _ _ us hl => match us, hl with | [_, _, _, _], _ => rfl) (by intro _; rfl) (by intro _; rfl) fun cdv A outer s H E C => ?_
  rintro ⟨rows, ends, turns, width, ⟨⟩⟩
  show SR _ _ none [.val (List (List Int)) rows, .val (List Int) ends, .val (List Int) turns, .val Int width, .non, .non, .non, .non, .non, .non, .non, .non, .non, .non, .non] _ (retX (fun r : ((List (List Int)) × (List Int)) => (.tup [.lst (List Int) r.1, .lst Int r.2]))) (m__first_table rows ends turns width)
  unfold m__first_table
  exact (r_cons (n_set 4 (n3 := fun height1 => [.val (List (List Int)) rows, .val (List Int) ends, .val (List Int) turns, .val Int width, .val Int height1, .non, .non, .non, .non, .non, .non, .non, .non, .non, .non]) C.nd (e_lenl (EG.lg (e_var 1)) G.n_len)) fun height1 => (r_cons (n_setF 5 (n3 := fun table2 => [.val (List (List Int)) rows, .val (List Int) ends, .val (List Int) turns, .val Int width, .val Int height1, .own (List Int) none table2, .non, .non, .non, .non, .non, .non, .non, .non, .non]) C.nd (f_list (mk := (fun _ => ([] : List (List Int)))) a_nil)) fun table2 => (r_cons (n_for (ρl := fun (r3 : (List (List Int))) => [.val (List (List Int)) rows, .val (List Int) ends, .val (List Int) turns, .val Int width, .val Int height1, .own (List Int) none r3, .non, .non, .non, .non, .non, .non, .non, .non, .non]) (s0 := table2) C (i_enump (e_var 2) G.n_enumerate) (g_pair C.calm (g_name 6 C.nd) (g_name 7 C.nd)) (.s (.s (.s (.s (.s (.s (.n (.n (.n (.n (.n (.n (.n (.n (.n .nil))))))))))))))) (fun r3 v4 => b_at [.val (List (List Int)) rows, .val (List Int) ends, .val (List Int) turns, .val Int width, .val Int height1, .own (List Int) none r3, .val Int v4.1, .val Int v4.2, .non, .non, .non, .non, .non, .non, .non] (b_cons (n_lc 8 (n3 := fun units5 => [.val (List (List Int)) rows, .val (List Int) ends, .val (List Int) turns, .val Int width, .val Int height1, .own (List Int) none r3, .val Int v4.1, .val Int v4.2, .val (List Int) units5, .non, .non, .non, .non, .non, .non]) (ow := [(Str.ofString "other", 12)]) (ρw := [.val (List (List Int)) rows, .val (List Int) ends, .val (List Int) turns, .val Int width, .val Int height1, .own (List Int) none r3, .val Int v4.1, .val Int v4.2, .non, .non, .non, .non, .non, .non, .non]) C (i_range1p (e_var 4) G.n_range) (fun s H Cc cl fp => ⟨(g_name 12 C.blk.nd), fun _ => lc_none, fun other7 => e_at [.val (List (List Int)) rows, .val (List Int) ends, .val (List Int) turns, .val Int width, .val Int height1, .own (List Int) none r3, .val Int v4.1, .val Int v4.2, .non, .non, .non, .non, .val Int other7, .non, .non] (e_ifp (CJ.t (e_eqp (e_var 12) (e_var 6))) e_int e_int)⟩)) fun units5 => (b_cons (n_app 5 (n3 := fun table19 => [.val (List (List Int)) rows, .val (List Int) ends, .val (List Int) turns, .val Int width, .val Int height1, .own (List Int) none table19, .val Int v4.1, .val Int v4.2, .val (List Int) units5, .non, .non, .non, .non, .non, .non]) (FG.ej (f_catm (FG.lg (f_catm (FG.lg (f_lc (ow := [(Str.ofString "entry", 14)]) (ρw := [.val (List (List Int)) rows, .val (List Int) ends, .val (List Int) turns, .val Int width, .val Int height1, .own (List Int) none r3, .val Int v4.1, .val Int v4.2, .val (List Int) units5, .non, .non, .non, .non, .non, .non]) C (i_list (e_ixp (EG.lg (e_var 0)) (e_var 6))) (fun s H Cc cl fp => ⟨(g_name 14 C.blk.nd), fun _ => lc_none, fun entry10 => e_at [.val (List (List Int)) rows, .val (List Int) ends, .val (List Int) turns, .val Int width, .val Int height1, .own (List Int) none r3, .val Int v4.1, .val Int v4.2, .val (List Int) units5, .non, .non, .non, .non, .non, .val Int entry10] (e_mulp (e_var 7) (e_var 14))⟩))) (EG.lg (e_var 8)))) (FG.lg (f_list (mk := fun u => [u.1]) (a_cons (e_mul (e_var 7) (e_ixp (EG.lg (e_var 1)) (e_var 6))) fun a16 => a_nil)))))) fun table19 => (b_nil (.s (.s (.s (.s (.s (.s (.n (.n (.n (.n (.n (.n (.n (.n (.n .nil)))))))))))))))))))) fun r3 => (r_cons (n_lcL 9 (ρ' := [.val (List (List Int)) rows, .val (List Int) ends, .val (List Int) turns, .val Int width, .val Int height1, .val (List (List Int)) r3, .non, .non, .non, .non, .non, .non, .non, .non, .non]) (n3 := fun costs22 => [.val (List (List Int)) rows, .val (List Int) ends, .val (List Int) turns, .val Int width, .val Int height1, .own (List Int) none r3, .non, .non, .non, .val (List Int) costs22, .non, .non, .non, .non, .non]) (ow := [(Str.ofString "column", 11)]) (ρw := [.val (List (List Int)) rows, .val (List Int) ends, .val (List Int) turns, .val Int width, .val Int height1, .val (List (List Int)) r3, .non, .non, .non, .non, .non, .non, .non, .non, .non]) (lend_own (T := (List Int)) (xs := r3) 5 Lend.refl) C (i_range1p (e_var 3) G.n_range) (fun s H Cc cl fp => ⟨(g_name 11 C.blk.nd), fun _ => lc_none, fun column24 => e_at [.val (List (List Int)) rows, .val (List Int) ends, .val (List Int) turns, .val Int width, .val Int height1, .val (List (List Int)) r3, .non, .non, .non, .non, .non, .val Int column24, .non, .non, .non] (e_neg (e_sum C.blk.calm (FG.lg (f_lc (ow := [(Str.ofString "row", 13)]) (ρw := [.val (List (List Int)) rows, .val (List Int) ends, .val (List Int) turns, .val Int width, .val Int height1, .val (List (List Int)) r3, .non, .non, .non, .non, .non, .val Int column24, .non, .non, .non]) C.blk (i_list (e_var 5)) (fun s H Cc cl fp => ⟨(g_name 13 C.blk.blk.nd), fun _ => lc_none, fun row26 => e_at [.val (List (List Int)) rows, .val (List Int) ends, .val (List Int) turns, .val Int width, .val Int height1, .val (List (List Int)) r3, .non, .non, .non, .non, .non, .val Int column24, .non, .val (List Int) row26, .non] (e_ixp (EG.lg (e_var 13)) (e_var 11))⟩))) G.n_sum))⟩)) fun costs22 => (r_cons (n_set 10 (n3 := fun last31 => [.val (List (List Int)) rows, .val (List Int) ends, .val (List Int) turns, .val Int width, .val Int height1, .own (List Int) none r3, .non, .non, .non, .val (List Int) costs22, .val Int last31, .non, .non, .non, .non]) C.nd (e_lend (ρ' := [.val (List (List Int)) rows, .val (List Int) ends, .val (List Int) turns, .val Int width, .val Int height1, .val (List (List Int)) r3, .non, .non, .non, .val (List Int) costs22, .non, .non, .non, .non, .non]) (lend_own (T := (List Int)) (xs := r3) 5 Lend.refl) (e_at [.val (List (List Int)) rows, .val (List Int) ends, .val (List Int) turns, .val Int width, .val Int height1, .val (List (List Int)) r3, .non, .non, .non, .val (List Int) costs22, .non, .non, .non, .non, .non] (e_neg (e_sum C.calm (FG.lg (f_lc (ow := [(Str.ofString "row", 13)]) (ρw := [.val (List (List Int)) rows, .val (List Int) ends, .val (List Int) turns, .val Int width, .val Int height1, .val (List (List Int)) r3, .non, .non, .non, .val (List Int) costs22, .non, .non, .non, .non, .non]) C (i_list (e_var 5)) (fun s H Cc cl fp => ⟨(g_name 13 C.blk.nd), fun _ => lc_none, fun row33 => e_at [.val (List (List Int)) rows, .val (List Int) ends, .val (List Int) turns, .val Int width, .val Int height1, .val (List (List Int)) r3, .non, .non, .non, .val (List Int) costs22, .non, .non, .non, .val (List Int) row33, .non] (e_ixp (EG.lg (e_var 13)) (e_negp e_int))⟩))) G.n_sum))))) fun last31 => (r_cons (n_app 5 (n3 := fun table41 => [.val (List (List Int)) rows, .val (List Int) ends, .val (List Int) turns, .val Int width, .val Int height1, .own (List Int) none table41, .non, .non, .non, .val (List Int) costs22, .val Int last31, .non, .non, .non, .non]) (FG.ej (f_catm (FG.lg (f_catm (EG.lg (e_var 9)) (FG.lg (f_repp (FG.lg (f_list (mk := fun u => [u.1]) (a_consp e_int a_nil))) (e_var 4))))) (FG.lg (f_list (mk := fun u => [u.1]) (a_consp (e_var 10) a_nil)))))) fun table41 => (r_retX (x_conv (f := fun p : (List (List Int)) × (List Int) × Unit => (p.1, p.2.1)) (ov2 := fun r : ((List (List Int)) × (List Int)) => (.tup [.lst (List Int) r.1, .lst Int r.2])) (x_tup (xa_cons (x_mv 5 (ρ1 := [.val (List (List Int)) rows, .val (List Int) ends, .val (List Int) turns, .val Int width, .val Int height1, .non, .non, .non, .non, .val (List Int) costs22, .val Int last31, .non, .non, .non, .non]) (xs := table41)) (xa_cons (x_new (f_lc (ow := [(Str.ofString "at", 6)]) (ρw := [.val (List (List Int)) rows, .val (List Int) ends, .val (List Int) turns, .val Int width, .val Int height1, .non, .non, .non, .non, .val (List Int) costs22, .val Int last31, .non, .non, .non, .non]) C (i_range1p (e_var 4) G.n_range) (fun s H Cc cl fp => ⟨(g_name 6 C.blk.nd), fun _ => lc_none, fun at'44 => e_at [.val (List (List Int)) rows, .val (List Int) ends, .val (List Int) turns, .val Int width, .val Int height1, .non, .val Int at'44, .non, .non, .val (List Int) costs22, .val Int last31, .non, .non, .non, .non] (e_addp (e_var 3) (e_var 6))⟩))) xa_nil)))))))))))
def m__entering (costs : List Int) (width : Int) : Res (Option Int) :=
  (thenR (Res.bind (guardR (inRange width) (Res.ok (rng 0 width))) fun z6 => forC (fun (r1 : Unit) column2 => (Res.bind (Res.bind (idxM costs column2) fun x3 => Res.bind (Res.ok 0) fun y4 => Res.ok (decide (x3 < y4))) fun k5 => if k5 then liftC (Res.ok (Ctl.rt (some column2))) else (Res.ok (Ctl.nx ())))) z6 ()) fun r1 => (Res.ok (none : Option Int)))
abbrev s__entering : Stmt := topS 6
theorem sc__entering : FnScope ["costs", "width", "column"] ["costs", "width"] (defScope s__entering) := ⟨rfl, rfl, rfl, by decide +kernel, rfl, by decide +kernel, by decide +kernel⟩
theorem ok__entering {P : Program} {w : World} {K : PySem.W.Frag} {mg : Str → Option Value} {base : Heap} (G : Fx P K mg) : FOk P w K mg base "_entering" 1 (spOf K (asC (T := (List Int)) (asC (T := Int) asN)) (fun u : (List Int) × Int × Unit => m__entering u.1 u.2.1)) := by
  obtain ⟨fd, F⟩ := G.d__entering
  refine fok_data (ρ0 := fun u : (List Int) × Int × Unit => [.val (List Int) u.1, .val Int u.2.1, .non]) F G.g__entering sc__entering (F.bindsN (ps := ["costs", "width"]) fun _ _ _ _ _ _ us hl => match us, hl with | [_, _], _ => rfl) (by intro _; rfl) (by intro _; rfl) fun cdv A outer s H E C => ?_
  rintro ⟨costs, width, ⟨⟩⟩
  show SR _ _ none [.val (List Int) costs, .val Int width, .non] _ (retD (Option Int)) (m__entering costs width)
  unfold m__entering
  exact (rc_cons (b := eb) (c_for (ρl := fun (r1 : Unit) => [.val (List Int) costs, .val Int width, .non]) (s0 := ()) C (i_range1p (e_var 1) G.n_range) (g_name 2 C.nd) (.s (.s (.n .nil))) (fun r1 column2 => c_at [.val (List Int) costs, .val Int width, .val Int column2] (c_if1 (CJ.t (e_lt (e_ixp (EG.lg (e_var 0)) (e_var 2)) e_int)) (SR.cp (r_ret (e_upp up_some (e_var 2)))) (c_nil (.s (.s (.n .nil))))))) fun r1 => (r_ret (e_upp up_none e_none)))
def m__leaving (table : List (List Int)) (basis : List Int) (column : Int) : Res (Option Int) :=
  (Res.bind (Res.ok (none : Option Int)) fun best1 => (thenR (Res.bind (Res.ok (enumL basis)) fun z32 => forC (fun (r2 : (Option Int)) v3 => (Res.bind (Res.bind (idxM table v3.1) fun x5 => Res.bind (Res.ok column) fun y6 => idxM x5 y6) fun entry4 => (if decide (entry4 ≤ 0) then liftC (Res.ok (Ctl.ct r2)) else (if ((r2).isNone) then liftC (Res.bind (Res.ok (some v3.1)) fun best7 => (Res.ok (Ctl.ct best7))) else (Res.bind (Res.bind (Res.bind (Res.bind (idxM table v3.1) fun x9 => Res.bind (Res.ok (-1)) fun y10 => idxM x9 y10) fun x15 => Res.bind (Res.bind (Res.bind (Res.ok table) fun x11 => Res.bind (getO r2) fun y12 => idxM x11 y12) fun x13 => Res.bind (Res.ok column) fun y14 => idxM x13 y14) fun y16 => mulM x15 y16) fun x23 => Res.bind (Res.bind (Res.bind (Res.bind (Res.ok table) fun x17 => Res.bind (getO r2) fun y18 => idxM x17 y18) fun x19 => Res.bind (Res.ok (-1)) fun y20 => idxM x19 y20) fun x21 => Res.bind (Res.ok entry4) fun y22 => mulM x21 y22) fun y24 => Res.ok (x23 - y24)) fun gap8 => (Res.bind (Res.bind (orM (Res.ok (decide (gap8 < 0))) (andM (Res.ok (decide (gap8 = 0))) (Res.bind (Res.ok v3.2) fun x27 => Res.bind (Res.bind (Res.ok basis) fun x25 => Res.bind (getO r2) fun y26 => idxM x25 y26) fun y28 => Res.ok (decide (x27 < y28))))) fun k31 => if k31 then (Res.bind (Res.ok (some v3.1)) fun best30 => (Res.ok best30)) else (Res.ok r2)) fun r29 => (Res.ok (Ctl.nx r29)))))))) z32 best1) fun r2 => (Res.ok r2)))
abbrev s__leaving : Stmt := topS 7
theorem sc__leaving : FnScope ["table", "basis", "column", "best", "at", "chosen", "entry", "gap"] ["table", "basis", "column"] (defScope s__leaving) := ⟨rfl, rfl, rfl, by decide +kernel, rfl, by decide +kernel, by decide +kernel⟩
theorem ok__leaving {P : Program} {w : World} {K : PySem.W.Frag} {mg : Str → Option Value} {base : Heap} (G : Fx P K mg) : FOk P w K mg base "_leaving" 1 (spOf K (asC (T := (List (List Int))) (asC (T := (List Int)) (asC (T := Int) asN))) (fun u : (List (List Int)) × (List Int) × Int × Unit => m__leaving u.1 u.2.1 u.2.2.1)) := by
  obtain ⟨fd, F⟩ := G.d__leaving
  refine fok_data (ρ0 := fun u : (List (List Int)) × (List Int) × Int × Unit => [.val (List (List Int)) u.1, .val (List Int) u.2.1, .val Int u.2.2.1, .non, .non, .non, .non, .non]) F G.g__leaving sc__leaving (F.bindsN (ps := ["table", "basis", "column"]) fun _ _ _ _ _ _ us hl => match us, hl with | [_, _, _], _ => rfl) (by intro _; rfl) (by intro _; rfl) fun cdv A outer s H E C => ?_
  rintro ⟨table, basis, column, ⟨⟩⟩
  show SR _ _ none [.val (List (List Int)) table, .val (List Int) basis, .val Int column, .non, .non, .non, .non, .non] _ (retD (Option Int)) (m__leaving table basis column)
  unfold m__leaving
  exact (r_cons (n_set 3 (n3 := fun best1 => [.val (List (List Int)) table, .val (List Int) basis, .val Int column, .val (Option Int) best1, .non, .non, .non, .non]) C.nd (e_upp up_none e_none)) fun best1 => (rc_cons (b := eb) (c_for (ρl := fun (r2 : (Option Int)) => [.val (List (List Int)) table, .val (List Int) basis, .val Int column, .val (Option Int) r2, .non, .non, .non, .non]) (s0 := best1) C (i_enump (e_var 1) G.n_enumerate) (g_pair C.calm (g_name 4 C.nd) (g_name 5 C.nd)) (.s (.s (.s (.s (.n (.n (.n (.n .nil)))))))) (fun r2 v3 => c_at [.val (List (List Int)) table, .val (List Int) basis, .val Int column, .val (Option Int) r2, .val Int v3.1, .val Int v3.2, .non, .non] (c_cons (n_set 6 (n3 := fun entry4 => [.val (List (List Int)) table, .val (List Int) basis, .val Int column, .val (Option Int) r2, .val Int v3.1, .val Int v3.2, .val Int entry4, .non]) C.nd (e_ix (EG.lg (e_ixp (EG.lg (e_var 0)) (e_var 4))) (e_var 2))) fun entry4 => (c_if1p (CJ.t (e_lep (e_var 6) e_int)) (c_cont (x := r2) (.s (.s (.s (.s (.n (.n (.n (.n .nil))))))))) (c_if1p (CJ.t (e_isNp (e_var 3))) (c_cons (n_set 3 (n3 := fun best7 => [.val (List (List Int)) table, .val (List Int) basis, .val Int column, .val (Option Int) best7, .val Int v3.1, .val Int v3.2, .val Int entry4, .non]) C.nd (e_upp up_some (e_var 4))) fun best7 => (c_cont (x := best7) (.s (.s (.s (.s (.n (.n (.n (.n .nil)))))))))) (c_cons (n_set 7 (n3 := fun gap8 => [.val (List (List Int)) table, .val (List Int) basis, .val Int column, .val (Option Int) r2, .val Int v3.1, .val Int v3.2, .val Int entry4, .val Int gap8]) C.nd (e_sub (e_mul (e_ix (EG.lg (e_ixp (EG.lg (e_var 0)) (e_var 4))) (e_negp e_int)) (e_ix (EG.lg (e_ix (EG.lg (e_var 0)) (e_getOp (e_var 3)))) (e_var 2))) (e_mul (e_ix (EG.lg (e_ix (EG.lg (e_var 0)) (e_getOp (e_var 3)))) (e_negp e_int)) (e_var 6)))) fun gap8 => (c_cons (n_if (n := fun (r29 : (Option Int)) => [.val (List (List Int)) table, .val (List Int) basis, .val Int column, .val (Option Int) r29, .val Int v3.1, .val Int v3.2, .val Int entry4, .val Int gap8]) (TWJ.pt (tw_or (CJ.t (e_ltp (e_var 7) e_int)) (tw_or1 (TWJ.pt (tw_and (CJ.t (e_eqp (e_var 7) e_int)) (tw_and1 (CJ.t (e_lt (e_var 5) (e_ix (EG.lg (e_var 1)) (e_getOp (e_var 3))))))))))) (b_cons (n_set 3 (n3 := fun best30 => [.val (List (List Int)) table, .val (List Int) basis, .val Int column, .val (Option Int) best30, .val Int v3.1, .val Int v3.2, .val Int entry4, .val Int gap8]) C.nd (e_upp up_some (e_var 4))) fun best30 => (b_nil (.s (.s (.s (.s (.s (.s (.s (.s .nil)))))))))) (b_nil (.s (.s (.s (.s (.s (.s (.s (.s .nil)))))))))) fun r29 => (c_nil (.s (.s (.s (.s (.n (.n (.n (.n .nil)))))))))))))))) fun r2 => (r_ret (e_var 3))))
def m__improve (table : List (List Int)) (basis : List Int) (bottom : Int) (width : Int) : Res ((Int × (Option Int)) × (List (List Int)) × (List Int)) :=
  (thenR (whileC (fun (r1 : (List (List Int)) × (List Int) × Int) => (Res.ok true)) (fun (r1 : (List (List Int)) × (List Int) × Int) => (Res.bind (Res.bind (idxM r1.1 (-1)) fun a3 => m__entering a3 width) fun column2 => (if ((column2).isNone) then liftC (Res.ok (Ctl.rt ((r1.2.2, (none : Option Int)), r1.1, r1.2.1))) else (Res.bind (Res.bind (getO column2) fun a5 => (m__leaving r1.1 r1.2.1 a5).quiet) fun row4 => (if ((row4).isNone) then liftC (Res.ok (Ctl.rt ((r1.2.2, column2), r1.1, r1.2.1))) else (Res.bind (Res.bind (getO row4) fun a7 => Res.bind (getO column2) fun a8 => (m_clear_column r1.1 a7 a8 r1.2.2).quiet) fun y9 => (Res.bind (Res.bind (getO column2) fun a11 => Res.bind (getO row4) fun b12 => setM r1.2.1 b12 a11) fun basis10 => (Res.ok (Ctl.nx (y9.2, basis10, y9.1)))))))))) (1000000000000000000000000000000000000000000000000000000000000000000000000000000000000000000000000000000000000000000000) (table, basis, bottom)) fun r1 => (Res.bad))
abbrev s__improve : Stmt := topS 5
theorem sc__improve : FnScope ["table", "basis", "bottom", "width", "column", "row"] ["table", "basis", "bottom", "width"] (defScope s__improve) := ⟨rfl, rfl, rfl, by decide +kernel, rfl, by decide +kernel, by decide +kernel⟩
theorem ok__improve {P : Program} {w : World} {K : PySem.W.Frag} {mg : Str → Option Value} {base : Heap} (G : Fx P K mg) : FOk P w K mg base "_improve" 2 (spM2 K (asC (T := Int) (asC (T := Int) asN)) (fun u : (List (List Int)) × (List Int) × (Int × Int × Unit) => m__improve u.1 u.2.1 u.2.2.1 u.2.2.2.1)) := by
  obtain ⟨fd, F⟩ := G.d__improve
  refine fok_m2 (ρ0 := fun ad0 ad1 u => [.own (List Int) (some ad0) u.1, .own Int (some ad1) u.2.1, .val Int u.2.2.1, .val Int u.2.2.2.1, .non, .non]) (sl := fun ad0 ad1 y => [.own (List Int) (some ad0) y.1, .own Int (some ad1) y.2, .non, .non, .non, .non]) F G.g__improve sc__improve (F.bindsN (ps := ["table", "basis", "bottom", "width"]) fun _ _ _ _ _ _ us hl => match us, hl with | [_, _, _, _], _ => rfl) (by intro _; rfl) (by intros; rfl) (by intros; exact ⟨_, rfl⟩) fun cdv A outer s H E C => ?_
  rintro ad0 ad1 ⟨table, basis, bottom, width, ⟨⟩⟩
  show SR _ _ none [.own (List Int) (some ad0) table, .own Int (some ad1) basis, .val Int bottom, .val Int width, .non, .non] _ (retM (Int × (Option Int)) (fun y => [.own (List Int) (some ad0) y.1, .own Int (some ad1) y.2, .non, .non, .non, .non])) (m__improve table basis bottom width)
  unfold m__improve
  exact (rc_cons (b := eb) (c_while (ρl := fun (r1 : (List (List Int)) × (List Int) × Int) => [.own (List Int) (some ad0) r1.1, .own Int (some ad1) r1.2.1, .val Int r1.2.2, .val Int width, .non, .non]) (s0 := (table, basis, bottom)) (1000000000000000000000000000000000000000000000000000000000000000000000000000000000000000000000000000000000000000000000) C (fun r1 => t_at [.own (List Int) (some ad0) r1.1, .own Int (some ad1) r1.2.1, .val Int r1.2.2, .val Int width, .non, .non] (t_val e_bool)) (.s (.s (.s (.s (.n (.n .nil)))))) (fun r1 => c_at [.own (List Int) (some ad0) r1.1, .own Int (some ad1) r1.2.1, .val Int r1.2.2, .val Int width, .non, .non] (c_cons (n_set 4 (n3 := fun column2 => [.own (List Int) (some ad0) r1.1, .own Int (some ad1) r1.2.1, .val Int r1.2.2, .val Int width, .val (Option Int) column2, .non]) C.nd (e_call C (ok__entering G) (a_cons (e_ixp (l_own 0) (e_negp e_int)) fun a3 => (a_consp (e_var 3) a_nil)))) fun column2 => (c_if1p (CJ.t (e_isNp (e_var 4))) (SR.cp (r_retMp (r1.1, r1.2.1) (e_tup (mk := (fun u => (u.1, u.2.1))) (a_consp (e_var 2) (a_consp (e_upp up_none e_none) a_nil))) (.s (.s (.n (.n (.n (.n .nil)))))))) (c_cons (n_set 5 (n3 := fun row4 => [.own (List Int) (some ad0) r1.1, .own Int (some ad1) r1.2.1, .val Int r1.2.2, .val Int width, .val (Option Int) column2, .val (Option Int) row4]) C.nd (EG.flat (e_callb C (ok__leaving G) (a_consp (e_own 0) (a_consp (e_own 1) (a_cons (EG.borrow (e_getOp (e_var 4))) fun a5 => a_nil)))))) fun row4 => (c_if1p (CJ.t (e_isNp (e_var 5))) (SR.cp (r_retMp (r1.1, r1.2.1) (e_tup (mk := (fun u => (u.1, u.2.1))) (a_consp (e_var 2) (a_consp (e_var 4) a_nil))) (.s (.s (.n (.n (.n (.n .nil)))))))) (c_cons (n_setM 2 (n3 := fun y9 => [.own (List Int) (some ad0) y9.2, .own Int (some ad1) r1.2.1, .val Int y9.1, .val Int width, .val (Option Int) column2, .val (Option Int) row4]) C.nd (m_call1 0 (n := fun y6 => [.own (List Int) (some ad0) y6, .own Int (some ad1) r1.2.1, .val Int r1.2.2, .val Int width, .val (Option Int) column2, .val (Option Int) row4]) C (ok_clear_column G) (a_cons (e_getOp (e_var 5)) fun a7 => (a_cons (e_getOp (e_var 4)) fun a8 => (a_consp (e_var 2) a_nil))))) fun y9 => (c_cons (n_setix 1 (n3 := fun basis10 => [.own (List Int) (some ad0) y9.2, .own Int (some ad1) basis10, .val Int y9.1, .val Int width, .val (Option Int) column2, .val (Option Int) row4]) (e_getOp (e_var 4)) (e_getOp (e_var 5))) fun basis10 => (c_nil (.s (.s (.s (.s (.n (.n .nil))))))))))))))) fun r1 => r_bad)
def m__drive_out (table : List (List Int)) (basis : List Int) (bottom : Int) (width : Int) : Res (Int × (List (List Int)) × (List Int)) :=
  (thenR (Res.bind (guardR (inRange (basis.length : Int)) (Res.ok (rng 0 (basis.length : Int)))) fun z33 => forC (fun (r1 : (List (List Int)) × (List Int) × Int) at'2 => (Res.bind (Res.bind (idxM r1.2.1 at'2) fun x3 => Res.bind (Res.ok width) fun y4 => Res.ok (decide (x3 < y4))) fun k32 => if k32 then liftC (Res.ok (Ctl.ct (r1.1, r1.2.1, r1.2.2))) else (Res.bind (Res.bind (guardR (inRange width) (Res.ok (rng 0 width))) fun z12 => lcX (fun column7 => (Res.bind (Res.bind (idxM r1.1 at'2) fun x8 => Res.bind (Res.ok column7) fun y9 => idxM x8 y9) fun x10 => Res.bind (Res.ok 0) fun y11 => Res.ok (!decide (x10 = y11)))) (fun column7 => (Res.ok column7)) z12) fun found5 => (Res.bind (if (!found5.isEmpty) then (Res.bind (Res.bind (Res.bind (Res.bind (idxM r1.1 at'2) fun x14 => Res.bind (idxM found5 0) fun y15 => idxM x14 y15) fun x16 => Res.bind (Res.ok 0) fun y17 => Res.ok (decide (x16 < y17))) fun k25 => if k25 then (Res.bind (Res.bind (Res.bind (idxM r1.1 at'2) fun z21 => lcX (fun _ => Res.ok true) (fun entry20 => (Res.ok (-entry20))) z21) fun a23 => Res.bind (Res.ok at'2) fun b24 => setM r1.1 b24 a23) fun table22 => (Res.ok table22)) else (Res.ok r1.1)) fun r18 => (Res.bind (Res.bind (idxM found5 0) fun a27 => (m_clear_column r18 at'2 a27 r1.2.2).quiet) fun y28 => (Res.bind (Res.bind (idxM found5 0) fun a30 => Res.bind (Res.ok at'2) fun b31 => setM r1.2.1 b31 a30) fun basis29 => (Res.ok (y28.2, basis29, y28.1))))) else (Res.ok (r1.1, r1.2.1, r1.2.2))) fun r13 => (Res.ok (Ctl.nx (r13.1, r13.2.1, r13.2.2))))))) z33 (table, basis, bottom)) fun r1 => (Res.ok (r1.2.2, r1.1, r1.2.1)))
abbrev s__drive_out : Stmt := topS 8
theorem sc__drive_out : FnScope ["table", "basis", "bottom", "width", "at", "found", "column", "entry"] ["table", "basis", "bottom", "width"] (defScope s__drive_out) := ⟨rfl, rfl, rfl, by decide +kernel, rfl, by decide +kernel, by decide +kernel⟩
theorem ok__drive_out {P : Program} {w : World} {K : PySem.W.Frag} {mg : Str → Option Value} {base : Heap} (G : Fx P K mg) : FOk P w K mg base "_drive_out" 2 (spM2 K (asC (T := Int) (asC (T := Int) asN)) (fun u : (List (List Int)) × (List Int) × (Int × Int × Unit) => m__drive_out u.1 u.2.1 u.2.2.1 u.2.2.2.1)) := by
  obtain ⟨fd, F⟩ := G.d__drive_out
  refine fok_m2 (ρ0 := fun ad0 ad1 u => [.own (List Int) (some ad0) u.1, .own Int (some ad1) u.2.1, .val Int u.2.2.1, .val Int u.2.2.2.1, .non, .non, .non, .non]) (sl := fun ad0 ad1 y => [.own (List Int) (some ad0) y.1, .own Int (some ad1) y.2, .non, .non, .non, .non, .non, .non]) F G.g__drive_out sc__drive_out (F.bindsN (ps := ["table", "basis", "bottom", "width"]) fun _ _ _ _ _ _ us hl => match us, hl with | [_, _, _, _], _ => rfl) (by intro _; rfl) (by intros; rfl) (by intros; exact ⟨_, rfl⟩) fun cdv A outer s H E C => ?_
  rintro ad0 ad1 ⟨table, basis, bottom, width, ⟨⟩⟩
  show SR _ _ none [.own (List Int) (some ad0) table, .own Int (some ad1) basis, .val Int bottom, .val Int width, .non, .non, .non, .non] _ (retM Int (fun y => [.own (List Int) (some ad0) y.1, .own Int (some ad1) y.2, .non, .non, .non, .non, .non, .non])) (m__drive_out table basis bottom width)
  unfold m__drive_out
  exact (rc_cons (b := eb) (c_for (ρl := fun (r1 : (List (List Int)) × (List Int) × Int) => [.own (List Int) (some ad0) r1.1, .own Int (some ad1) r1.2.1, .val Int r1.2.2, .val Int width, .non, .non, .non, .non]) (s0 := (table, basis, bottom)) C (i_range1p (e_lenl (l_own 1) G.n_len) G.n_range) (g_name 4 C.nd) (.s (.s (.s (.s (.n (.n (.n (.n .nil)))))))) (fun r1 at'2 => c_at [.own (List Int) (some ad0) r1.1, .own Int (some ad1) r1.2.1, .val Int r1.2.2, .val Int width, .val Int at'2, .non, .non, .non] (c_if1 (CJ.t (e_lt (e_ixp (l_own 1) (e_var 4)) (e_var 3))) (c_cont (x := (r1.1, r1.2.1, r1.2.2)) (.s (.s (.s (.s (.n (.n (.n (.n .nil))))))))) (c_cons (n_lc 5 (n3 := fun found5 => [.own (List Int) (some ad0) r1.1, .own Int (some ad1) r1.2.1, .val Int r1.2.2, .val Int width, .val Int at'2, .val (List Int) found5, .non, .non]) (ow := [(Str.ofString "column", 6)]) (ρw := [.own (List Int) (some ad0) r1.1, .own Int (some ad1) r1.2.1, .val Int r1.2.2, .val Int width, .val Int at'2, .non, .non, .non]) C (i_range1p (e_var 3) G.n_range) (fun s H Cc cl fp => ⟨(g_name 6 C.blk.nd), fun column7 => lc_one (t_at [.own (List Int) (some ad0) r1.1, .own Int (some ad1) r1.2.1, .val Int r1.2.2, .val Int width, .val Int at'2, .non, .val Int column7, .non] (CJ.t (e_ne (e_ix (EG.lg (e_ixp (l_own 0) (e_var 4))) (e_var 6)) e_int))), fun column7 => e_at [.own (List Int) (some ad0) r1.1, .own Int (some ad1) r1.2.1, .val Int r1.2.2, .val Int width, .val Int at'2, .non, .val Int column7, .non] (e_var 6)⟩)) fun found5 => (c_cons (n_ifp (n := fun (r13 : (List (List Int)) × (List Int) × Int) => [.own (List Int) (some ad0) r13.1, .own Int (some ad1) r13.2.1, .val Int r13.2.2, .val Int width, .val Int at'2, .val (List Int) found5, .non, .non]) (t_listp (EG.lg (e_var 5))) (b_cons (n_if (n := fun (r18 : (List (List Int))) => [.own (List Int) (some ad0) r18, .own Int (some ad1) r1.2.1, .val Int r1.2.2, .val Int width, .val Int at'2, .val (List Int) found5, .non, .non]) (CJ.t (e_lt (e_ix (EG.lg (e_ixp (l_own 0) (e_var 4))) (e_ixp (EG.lg (e_var 5)) e_int)) e_int)) (b_cons (n_setix 0 (n3 := fun table22 => [.own (List Int) (some ad0) table22, .own Int (some ad1) r1.2.1, .val Int r1.2.2, .val Int width, .val Int at'2, .val (List Int) found5, .non, .non]) (FG.ej (f_lc (ow := [(Str.ofString "entry", 7)]) (ρw := [.own (List Int) (some ad0) r1.1, .own Int (some ad1) r1.2.1, .val Int r1.2.2, .val Int width, .val Int at'2, .val (List Int) found5, .non, .non]) C (i_list (e_ixp (l_own 0) (e_var 4))) (fun s H Cc cl fp => ⟨(g_name 7 C.blk.nd), fun _ => lc_none, fun entry20 => e_at [.own (List Int) (some ad0) r1.1, .own Int (some ad1) r1.2.1, .val Int r1.2.2, .val Int width, .val Int at'2, .val (List Int) found5, .non, .val Int entry20] (e_negp (e_var 7))⟩))) (e_var 4)) fun table22 => (b_nil (.s (.s (.s (.s (.s (.s (.n (.n .nil)))))))))) (b_nil (.s (.s (.s (.s (.s (.s (.n (.n .nil)))))))))) fun r18 => (b_cons (n_setM 2 (n3 := fun y28 => [.own (List Int) (some ad0) y28.2, .own Int (some ad1) r1.2.1, .val Int y28.1, .val Int width, .val Int at'2, .val (List Int) found5, .non, .non]) C.nd (m_call1 0 (n := fun y26 => [.own (List Int) (some ad0) y26, .own Int (some ad1) r1.2.1, .val Int r1.2.2, .val Int width, .val Int at'2, .val (List Int) found5, .non, .non]) C (ok_clear_column G) (a_consp (e_var 4) (a_cons (e_ixp (EG.lg (e_var 5)) e_int) fun a27 => (a_consp (e_var 2) a_nil))))) fun y28 => (b_cons (n_setix 1 (n3 := fun basis29 => [.own (List Int) (some ad0) y28.2, .own Int (some ad1) basis29, .val Int y28.1, .val Int width, .val Int at'2, .val (List Int) found5, .non, .non]) (e_ixp (EG.lg (e_var 5)) e_int) (e_var 4)) fun basis29 => (b_nil (.s (.s (.s (.s (.s (.s (.n (.n .nil)))))))))))) (b_nil (.s (.s (.s (.s (.s (.s (.n (.n .nil)))))))))) fun r13 => (c_nil (.s (.s (.s (.s (.n (.n (.n (.n .nil)))))))))))))) fun r1 => (r_retMp (r1.1, r1.2.1) (e_var 2) (.s (.s (.n (.n (.n (.n (.n (.n .nil))))))))))
def m__cost_row (table : List (List Int)) (basis : List Int) (bottom : Int) (costs : List Int) : Res (List Int) :=
  (Res.bind (Res.bind (Res.ok costs) fun x6 => Res.bind (Res.bind (Res.ok [0]) fun x4 => Res.bind (Res.bind (Res.bind (idxM table (-1)) Len.len) fun x2 => Res.bind (Res.ok (costs.length : Int)) fun y3 => Res.ok (x2 - y3)) fun y5 => repM x4 y5) fun y7 => catM x6 y7) fun full1 => (Res.bind (Res.bind (Res.ok full1) fun z11 => lcX (fun _ => Res.ok true) (fun cost10 => (mulM bottom cost10)) z11) fun row8 => (Res.bind (Res.bind (Res.ok (enumL basis)) fun z28 => forR (fun (r12 : (List Int)) v13 => (Res.bind (Res.bind (Res.bind (idxM full1 v13.2) fun x14 => Res.bind (Res.ok 0) fun y15 => Res.ok (!decide (x14 = y15))) fun k27 => if k27 then (Res.bind (((Res.bind (Res.bind (Res.ok r12) fun x18 => Res.bind (idxM table v13.1) fun y19 => Res.ok (x18.zip y19)) fun z26 => lcX (fun _ => Res.ok true) (fun v21 => (Res.bind (Res.ok v21.1) fun x24 => Res.bind (Res.bind (idxM full1 v13.2) fun x22 => Res.bind (Res.ok v21.2) fun y23 => mulM x22 y23) fun y25 => Res.ok (x24 - y25))) z26)).quiet) fun row17 => (Res.ok row17)) else (Res.ok r12)) fun r16 => (Res.ok r16))) z28 row8) fun r12 => (Res.ok r12))))
abbrev s__cost_row : Stmt := topS 9
theorem sc__cost_row : FnScope ["table", "basis", "bottom", "costs", "full", "row", "at", "column", "cost", "entry", "other"] ["table", "basis", "bottom", "costs"] (defScope s__cost_row) := ⟨rfl, rfl, rfl, by decide +kernel, rfl, by decide +kernel, by decide +kernel⟩
theorem ok__cost_row {P : Program} {w : World} {K : PySem.W.Frag} {mg : Str → Option Value} {base : Heap} (G : Fx P K mg) : FOk P w K mg base "_cost_row" 1 (spFr K (asC (T := (List (List Int))) (asC (T := (List Int)) (asC (T := Int) (asC (T := (List Int)) asN)))) (fun u : (List (List Int)) × (List Int) × Int × (List Int) × Unit => m__cost_row u.1 u.2.1 u.2.2.1 u.2.2.2.1)) := by
  obtain ⟨fd, F⟩ := G.d__cost_row
  refine fok_fr (ρ0 := fun u : (List (List Int)) × (List Int) × Int × (List Int) × Unit => [.val (List (List Int)) u.1, .val (List Int) u.2.1, .val Int u.2.2.1, .val (List Int) u.2.2.2.1, .non, .non, .non, .non, .non, .non, .non]) F G.g__cost_row sc__cost_row (F.bindsN (ps := ["table", "basis", "bottom", "costs"]) fun _ _ _ _ _ _ us hl => match us, hl with | [_, _, _, _], _ => rfl) (by intro _; rfl) (by intro _; rfl) fun cdv A outer s H E C => ?_
  rintro ⟨table, basis, bottom, costs, ⟨⟩⟩
  show SR _ _ none [.val (List (List Int)) table, .val (List Int) basis, .val Int bottom, .val (List Int) costs, .non, .non, .non, .non, .non, .non, .non] _ (retF Int) (m__cost_row table basis bottom costs)
  unfold m__cost_row
  exact (r_cons (n_set 4 (n3 := fun full1 => [.val (List (List Int)) table, .val (List Int) basis, .val Int bottom, .val (List Int) costs, .val (List Int) full1, .non, .non, .non, .non, .non, .non]) C.nd (FG.ej (f_catm (FG.lg (f_listofp (EG.lg (e_var 3)) G.n_list)) (FG.lg (f_rep (FG.lg (f_list (mk := fun u => [u.1]) (a_consp e_int a_nil))) (e_sub (e_len (e_ixp (EG.lg (e_var 0)) (e_negp e_int)) G.n_len) (e_lenl (EG.lg (e_var 3)) G.n_len))))))) fun full1 => (r_cons (n_lcF 5 (n3 := fun row8 => [.val (List (List Int)) table, .val (List Int) basis, .val Int bottom, .val (List Int) costs, .val (List Int) full1, .own Int none row8, .non, .non, .non, .non, .non]) (ow := [(Str.ofString "cost", 8)]) (ρw := [.val (List (List Int)) table, .val (List Int) basis, .val Int bottom, .val (List Int) costs, .val (List Int) full1, .non, .non, .non, .non, .non, .non]) C (i_list (e_var 4)) (fun s H Cc cl fp => ⟨(g_name 8 C.blk.nd), fun _ => lc_none, fun cost10 => e_at [.val (List (List Int)) table, .val (List Int) basis, .val Int bottom, .val (List Int) costs, .val (List Int) full1, .non, .non, .non, .val Int cost10, .non, .non] (e_mulp (e_var 2) (e_var 8))⟩)) fun row8 => (r_cons (n_for (ρl := fun (r12 : (List Int)) => [.val (List (List Int)) table, .val (List Int) basis, .val Int bottom, .val (List Int) costs, .val (List Int) full1, .own Int none r12, .non, .non, .non, .non, .non]) (s0 := row8) C (i_enump (e_var 1) G.n_enumerate) (g_pair C.calm (g_name 6 C.nd) (g_name 7 C.nd)) (.s (.s (.s (.s (.s (.s (.n (.n (.n (.n (.n .nil))))))))))) (fun r12 v13 => b_at [.val (List (List Int)) table, .val (List Int) basis, .val Int bottom, .val (List Int) costs, .val (List Int) full1, .own Int none r12, .val Int v13.1, .val Int v13.2, .non, .non, .non] (b_cons (n_if (n := fun (r16 : (List Int)) => [.val (List (List Int)) table, .val (List Int) basis, .val Int bottom, .val (List Int) costs, .val (List Int) full1, .own Int none r16, .val Int v13.1, .val Int v13.2, .non, .non, .non]) (CJ.t (e_ne (e_ixp (EG.lg (e_var 4)) (e_var 7)) e_int)) (b_cons (n_lcFL 5 (ρ' := [.val (List (List Int)) table, .val (List Int) basis, .val Int bottom, .val (List Int) costs, .val (List Int) full1, .val (List Int) r12, .val Int v13.1, .val Int v13.2, .non, .non, .non]) (n3 := fun row17 => [.val (List (List Int)) table, .val (List Int) basis, .val Int bottom, .val (List Int) costs, .val (List Int) full1, .own Int none row17, .val Int v13.1, .val Int v13.2, .non, .non, .non]) (ow := [(Str.ofString "entry", 9), (Str.ofString "other", 10)]) (ρw := [.val (List (List Int)) table, .val (List Int) basis, .val Int bottom, .val (List Int) costs, .val (List Int) full1, .val (List Int) r12, .val Int v13.1, .val Int v13.2, .non, .non, .non]) (lend_own (T := Int) (xs := r12) 5 Lend.refl) C (i_zip (e_var 5) (e_ixp (EG.lg (e_var 0)) (e_var 6)) G.n_zip) (fun s H Cc cl fp => ⟨(g_pair C.blk.calm (g_name 9 C.blk.nd) (g_name 10 C.blk.nd)), fun _ => lc_none, fun v21 => e_at [.val (List (List Int)) table, .val (List Int) basis, .val Int bottom, .val (List Int) costs, .val (List Int) full1, .val (List Int) r12, .val Int v13.1, .val Int v13.2, .non, .val Int v21.1, .val Int v21.2] (e_sub (e_var 9) (e_mul (e_ixp (EG.lg (e_var 4)) (e_var 7)) (e_var 10)))⟩)) fun row17 => (b_nil (.s (.s (.s (.s (.s (.s (.s (.s (.n (.n (.n .nil))))))))))))) (b_nil (.s (.s (.s (.s (.s (.s (.s (.s (.n (.n (.n .nil))))))))))))) fun r16 => (b_nil (.s (.s (.s (.s (.s (.s (.n (.n (.n (.n (.n .nil))))))))))))))) fun r12 => (r_retOwn 5))))
def m__way (table : List (List Int)) (basis : List Int) (bottom : Int) (column : Int) (width : Int) : Res (List Int) :=
  (Res.bind (repM [0] width) fun way1 => (Res.bind (Res.bind (Res.ok bottom) fun a3 => Res.bind (Res.ok column) fun b4 => setM way1 b4 a3) fun way2 => (Res.bind (Res.bind (Res.ok (enumL basis)) fun z14 => forR (fun (r5 : (List Int)) v6 => (Res.bind (if decide (v6.2 < width) then (Res.bind (Res.bind (Res.bind (Res.bind (idxM table v6.1) fun x8 => Res.bind (Res.ok column) fun y9 => idxM x8 y9) fun x10 => Res.ok (-x10)) fun a12 => Res.bind (Res.ok v6.2) fun b13 => setM r5 b13 a12) fun way11 => (Res.ok way11)) else (Res.ok r5)) fun r7 => (Res.ok r7))) z14 way2) fun r5 => (Res.ok r5))))
abbrev s__way : Stmt := topS 10
theorem sc__way : FnScope ["table", "basis", "bottom", "column", "width", "way", "at", "chosen"] ["table", "basis", "bottom", "column", "width"] (defScope s__way) := ⟨rfl, rfl, rfl, by decide +kernel, rfl, by decide +kernel, by decide +kernel⟩
theorem ok__way {P : Program} {w : World} {K : PySem.W.Frag} {mg : Str → Option Value} {base : Heap} (G : Fx P K mg) : FOk P w K mg base "_way" 1 (spFr K (asC (T := (List (List Int))) (asC (T := (List Int)) (asC (T := Int) (asC (T := Int) (asC (T := Int) asN))))) (fun u : (List (List Int)) × (List Int) × Int × Int × Int × Unit => m__way u.1 u.2.1 u.2.2.1 u.2.2.2.1 u.2.2.2.2.1)) := by
  obtain ⟨fd, F⟩ := G.d__way
  refine fok_fr (ρ0 := fun u : (List (List Int)) × (List Int) × Int × Int × Int × Unit => [.val (List (List Int)) u.1, .val (List Int) u.2.1, .val Int u.2.2.1, .val Int u.2.2.2.1, .val Int u.2.2.2.2.1, .non, .non, .non]) F G.g__way sc__way (F.bindsN (ps := ["table", "basis", "bottom", "column", "width"]) fun _ _ _ _ _ _ us hl => match us, hl with | [_, _, _, _, _], _ => rfl) (by intro _; rfl) (by intro _; rfl) fun cdv A outer s H E C => ?_
  rintro ⟨table, basis, bottom, column, width, ⟨⟩⟩
  show SR _ _ none [.val (List (List Int)) table, .val (List Int) basis, .val Int bottom, .val Int column, .val Int width, .non, .non, .non] _ (retF Int) (m__way table basis bottom column width)
  unfold m__way
  exact (r_cons (n_setF 5 (n3 := fun way1 => [.val (List (List Int)) table, .val (List Int) basis, .val Int bottom, .val Int column, .val Int width, .own Int none way1, .non, .non]) C.nd (f_repp (FG.lg (f_list (mk := fun u => [u.1]) (a_consp e_int a_nil))) (e_var 4))) fun way1 => (r_cons (n_setix 5 (n3 := fun way2 => [.val (List (List Int)) table, .val (List Int) basis, .val Int bottom, .val Int column, .val Int width, .own Int none way2, .non, .non]) (e_var 2) (e_var 3)) fun way2 => (r_cons (n_for (ρl := fun (r5 : (List Int)) => [.val (List (List Int)) table, .val (List Int) basis, .val Int bottom, .val Int column, .val Int width, .own Int none r5, .non, .non]) (s0 := way2) C (i_enump (e_var 1) G.n_enumerate) (g_pair C.calm (g_name 6 C.nd) (g_name 7 C.nd)) (.s (.s (.s (.s (.s (.s (.n (.n .nil)))))))) (fun r5 v6 => b_at [.val (List (List Int)) table, .val (List Int) basis, .val Int bottom, .val Int column, .val Int width, .own Int none r5, .val Int v6.1, .val Int v6.2] (b_cons (n_ifp (n := fun (r7 : (List Int)) => [.val (List (List Int)) table, .val (List Int) basis, .val Int bottom, .val Int column, .val Int width, .own Int none r7, .val Int v6.1, .val Int v6.2]) (CJ.t (e_ltp (e_var 7) (e_var 4))) (b_cons (n_setix 5 (n3 := fun way11 => [.val (List (List Int)) table, .val (List Int) basis, .val Int bottom, .val Int column, .val Int width, .own Int none way11, .val Int v6.1, .val Int v6.2]) (e_neg (e_ix (EG.lg (e_ixp (EG.lg (e_var 0)) (e_var 6))) (e_var 3))) (e_var 7)) fun way11 => (b_nil (.s (.s (.s (.s (.s (.s (.s (.s .nil)))))))))) (b_nil (.s (.s (.s (.s (.s (.s (.s (.s .nil)))))))))) fun r7 => (b_nil (.s (.s (.s (.s (.s (.s (.n (.n .nil)))))))))))) fun r5 => (r_retOwn 5))))
def m_least_cost (rows : List (List Int)) (ends : List Int) (costs : List Int) : Res LC :=
  (Res.bind (Res.ok (costs.length : Int)) fun width1 => (Res.bind (Res.bind (Res.ok ends) fun z5 => lcX (fun _ => Res.ok true) (fun end'4 => (Res.ok (if decide (end'4 < 0) then (-1) else 1))) z5) fun turns2 => (Res.bind (m__first_table rows ends turns2 width1) fun p6 => (Res.bind ((m__improve p6.1 p6.2 1 width1).quiet) fun y8 => (Res.bind (Res.bind (Res.bind (idxM y8.2.1 (-1)) fun x9 => Res.bind (Res.ok (-1)) fun y10 => idxM x9 y10) fun x11 => Res.bind (Res.ok 0) fun y12 => Res.ok (decide (x11 < y12))) fun k47 => if k47 then (Res.bind (Res.bind (Res.ok (Str.ofString "none")) fun a => Res.bind (Res.bind (Res.bind (Res.ok (enumL turns2)) fun z21 => lcX (fun _ => Res.ok true) (fun v14 => (Res.bind (Res.ok v14.2) fun x19 => Res.bind (Res.bind (Res.ok y8.1.1) fun x17 => Res.bind (Res.bind (idxM y8.2.1 (-1)) fun x15 => Res.bind (Res.ok (width1 + v14.1)) fun y16 => idxM x15 y16) fun y18 => Res.ok (x17 - y18)) fun y20 => mulM x19 y20)) z21) fun a => Res.bind (Res.ok ()) fun b => Res.ok (a, b)) fun b => Res.ok (a, b)) fun p => Res.ok (LC.c2 p.1 p.2.1)) else (Res.bind ((m__drive_out y8.2.1 y8.2.2 y8.1.1 width1).quiet) fun y23 => (Res.bind (Res.bind (((m__cost_row y23.2.1 y23.2.2 y23.1 costs)).quiet) fun a25 => Res.bind (Res.ok (-1)) fun b26 => setM y23.2.1 b26 a25) fun table24 => (Res.bind ((m__improve table24 y23.2.2 y23.1 width1).quiet) fun y28 => (Res.bind (repM [0] width1) fun amounts29 => (Res.bind (Res.bind (Res.ok (enumL y28.2.2)) fun z38 => forR (fun (r30 : (List Int)) v31 => (Res.bind (if decide (v31.2 < width1) then (Res.bind (Res.bind (Res.bind (idxM y28.2.1 v31.1) fun x33 => Res.bind (Res.ok (-1)) fun y34 => idxM x33 y34) fun a36 => Res.bind (Res.ok v31.2) fun b37 => setM r30 b37 a36) fun amounts35 => (Res.ok amounts35)) else (Res.ok r30)) fun r32 => (Res.ok r32))) z38 amounts29) fun r30 => (if (!(y28.1.2).isNone) then (Res.bind (Res.bind (Res.ok (Str.ofString "endless")) fun a => Res.bind (Res.bind (Res.ok y28.1.1) fun a => Res.bind (Res.bind (Res.ok r30) fun a => Res.bind (Res.bind (((Res.bind (getO y28.1.2) fun a39 => m__way y28.2.1 y28.2.2 y28.1.1 a39 width1)).quiet) fun a => Res.bind (Res.ok ()) fun b => Res.ok (a, b)) fun b => Res.ok (a, b)) fun b => Res.ok (a, b)) fun b => Res.ok (a, b)) fun p => Res.ok (LC.c4 p.1 p.2.1 p.2.2.1 p.2.2.2.1)) else (Res.bind (Res.bind (Res.ok (Str.ofString "least")) fun a => Res.bind (Res.bind (Res.ok y28.1.1) fun a => Res.bind (Res.bind (Res.ok r30) fun a => Res.bind (Res.bind (Res.bind (Res.ok (enumL turns2)) fun z46 => lcX (fun _ => Res.ok true) (fun v41 => (Res.bind (Res.ok (-v41.2)) fun x44 => Res.bind (Res.bind (idxM y28.2.1 (-1)) fun x42 => Res.bind (Res.ok (width1 + v41.1)) fun y43 => idxM x42 y43) fun y45 => mulM x44 y45)) z46) fun a => Res.bind (Res.ok ()) fun b => Res.ok (a, b)) fun b => Res.ok (a, b)) fun b => Res.ok (a, b)) fun b => Res.ok (a, b)) fun p => Res.ok (LC.c4 p.1 p.2.1 p.2.2.1 p.2.2.2.1)))))))))))))
abbrev s_least_cost : Stmt := topS 3
theorem sc_least_cost : FnScope ["rows", "ends", "costs", "width", "turns", "table", "basis", "bottom", "column", "amounts", "at", "chosen", "end", "turn"] ["rows", "ends", "costs"] (defScope s_least_cost) := ⟨rfl, rfl, rfl, by decide +kernel, rfl, by decide +kernel, by decide +kernel⟩
theorem ok_least_cost {P : Program} {w : World} {K : PySem.W.Frag} {mg : Str → Option Value} {base : Heap} (G : Fx P K mg) : FOk P w K mg base "least_cost" 3 (spX K (fun r : LC => (LC.ov r)) (asC (T := (List (List Int))) (asC (T := (List Int)) (asC (T := (List Int)) asN))) (fun u : (List (List Int)) × (List Int) × (List Int) × Unit => m_least_cost u.1 u.2.1 u.2.2.1)) := by
  obtain ⟨fd, F⟩ := G.d_least_cost
  refine fok_x (ρ0 := fun u : (List (List Int)) × (List Int) × (List Int) × Unit => [.val (List (List Int)) u.1, .val (List Int) u.2.1, .val (List Int) u.2.2.1, .non, .non, .non, .non, .non, .non, .non, .non, .non, .non, .non]) F G.g_least_cost sc_least_cost (F.bindsN (ps := ["rows", "ends", "costs"]) fun _ _ _ _ _ _ us hl => match us, hl with | [_, _, _], _ => rfl) (by intro _; rfl) (by intro _; rfl) fun cdv A outer s H E C => ?_
  rintro ⟨rows, ends, costs, ⟨⟩⟩
  show SR _ _ none [.val (List (List Int)) rows, .val (List Int) ends, .val (List Int) costs, .non, .non, .non, .non, .non, .non, .non, .non, .non, .non, .non] _ (retX (fun r : LC => (LC.ov r))) (m_least_cost rows ends costs)
  unfold m_least_cost
  exact (r_cons (n_set 3 (n3 := fun width1 => [.val (List (List Int)) rows, .val (List Int) ends, .val (List Int) costs, .val Int width1, .non, .non, .non, .non, .non, .non, .non, .non, .non, .non]) C.nd (e_lenl (EG.lg (e_var 2)) G.n_len)) fun width1 => (r_cons (n_lc 4 (n3 := fun turns2 => [.val (List (List Int)) rows, .val (List Int) ends, .val (List Int) costs, .val Int width1, .val (List Int) turns2, .non, .non, .non, .non, .non, .non, .non, .non, .non]) (ow := [(Str.ofString "end", 12)]) (ρw := [.val (List (List Int)) rows, .val (List Int) ends, .val (List Int) costs, .val Int width1, .non, .non, .non, .non, .non, .non, .non, .non, .non, .non]) C (i_list (e_var 1)) (fun s H Cc cl fp => ⟨(g_name 12 C.blk.nd), fun _ => lc_none, fun end'4 => e_at [.val (List (List Int)) rows, .val (List Int) ends, .val (List Int) costs, .val Int width1, .non, .non, .non, .non, .non, .non, .non, .non, .val Int end'4, .non] (e_ifp (CJ.t (e_ltp (e_var 12) e_int)) (e_negp e_int) e_int)⟩)) fun turns2 => (r_cons (n_unpX 5 6 (n3 := fun p6 => [.val (List (List Int)) rows, .val (List Int) ends, .val (List Int) costs, .val Int width1, .val (List Int) turns2, .own (List Int) none p6.1, .own Int none p6.2, .non, .non, .non, .non, .non, .non, .non]) (o1 := (fun r : ((List (List Int)) × (List Int)) => .lst (List Int) r.1)) (o2 := (fun r : ((List (List Int)) × (List Int)) => .lst Int r.2)) C.calm C.nd (x_call (ov := (fun r : ((List (List Int)) × (List Int)) => (.tup [.lst (List Int) r.1, .lst Int r.2]))) C (ok__first_table G) (a_consp (e_var 0) (a_consp (e_var 1) (a_consp (e_var 4) (a_consp (e_var 3) a_nil)))))) fun p6 => (r_cons (n_unpM (n3 := fun y8 => [.val (List (List Int)) rows, .val (List Int) ends, .val (List Int) costs, .val Int width1, .val (List Int) turns2, .own (List Int) none y8.2.1, .own Int none y8.2.2, .val Int y8.1.1, .val (Option Int) y8.1.2, .non, .non, .non, .non, .non]) (m_call2 5 6 (n := fun y7 => [.val (List (List Int)) rows, .val (List Int) ends, .val (List Int) costs, .val Int width1, .val (List Int) turns2, .own (List Int) none y7.1, .own Int none y7.2, .non, .non, .non, .non, .non, .non, .non]) C (ok__improve G) (a_consp e_int (a_consp (e_var 3) a_nil))) (g_pair C.calm (g_name 7 C.nd) (g_name 8 C.nd))) fun y8 => (r_if (CJ.t (e_lt (e_ix (EG.lg (e_ixp (l_own 5) (e_negp e_int))) (e_negp e_int)) e_int)) (r_retX (x_conv (f := fun p : Str × (List Int) × Unit => (LC.c2 p.1 p.2.1)) (ov2 := fun r : LC => (LC.ov r)) (x_tup (xa_cons (x_val e_str) (xa_cons (x_new (f_lc (ow := [(Str.ofString "at", 10), (Str.ofString "turn", 13)]) (ρw := [.val (List (List Int)) rows, .val (List Int) ends, .val (List Int) costs, .val Int width1, .val (List Int) turns2, .own (List Int) none y8.2.1, .own Int none y8.2.2, .val Int y8.1.1, .val (Option Int) y8.1.2, .non, .non, .non, .non, .non]) C (i_enump (e_var 4) G.n_enumerate) (fun s H Cc cl fp => ⟨(g_pair C.blk.calm (g_name 10 C.blk.nd) (g_name 13 C.blk.nd)), fun _ => lc_none, fun v14 => e_at [.val (List (List Int)) rows, .val (List Int) ends, .val (List Int) costs, .val Int width1, .val (List Int) turns2, .own (List Int) none y8.2.1, .own Int none y8.2.2, .val Int y8.1.1, .val (Option Int) y8.1.2, .non, .val Int v14.1, .non, .non, .val Int v14.2] (e_mul (e_var 13) (e_sub (e_var 7) (e_ix (EG.lg (e_ixp (l_own 5) (e_negp e_int))) (e_addp (e_var 3) (e_var 10)))))⟩))) xa_nil))))) (r_cons (n_setM 7 (n3 := fun y23 => [.val (List (List Int)) rows, .val (List Int) ends, .val (List Int) costs, .val Int width1, .val (List Int) turns2, .own (List Int) none y23.2.1, .own Int none y23.2.2, .val Int y23.1, .val (Option Int) y8.1.2, .non, .non, .non, .non, .non]) C.nd (m_call2 5 6 (n := fun y22 => [.val (List (List Int)) rows, .val (List Int) ends, .val (List Int) costs, .val Int width1, .val (List Int) turns2, .own (List Int) none y22.1, .own Int none y22.2, .val Int y8.1.1, .val (Option Int) y8.1.2, .non, .non, .non, .non, .non]) C (ok__drive_out G) (a_consp (e_var 7) (a_consp (e_var 3) a_nil)))) fun y23 => (r_cons (n_setix 5 (n3 := fun table24 => [.val (List (List Int)) rows, .val (List Int) ends, .val (List Int) costs, .val Int width1, .val (List Int) turns2, .own (List Int) none table24, .own Int none y23.2.2, .val Int y23.1, .val (Option Int) y8.1.2, .non, .non, .non, .non, .non]) (FG.ej (f_lend (ρ' := [.val (List (List Int)) rows, .val (List Int) ends, .val (List Int) costs, .val Int width1, .val (List Int) turns2, .val (List (List Int)) y23.2.1, .val (List Int) y23.2.2, .val Int y23.1, .val (Option Int) y8.1.2, .non, .non, .non, .non, .non]) (lend_own (T := (List Int)) (xs := y23.2.1) 5 (lend_own (T := Int) (xs := y23.2.2) 6 Lend.refl)) (f_call C (ok__cost_row G) (a_consp (e_var 5) (a_consp (e_var 6) (a_consp (e_var 7) (a_consp (e_var 2) a_nil))))))) (e_negp e_int)) fun table24 => (r_cons (n_unpM (n3 := fun y28 => [.val (List (List Int)) rows, .val (List Int) ends, .val (List Int) costs, .val Int width1, .val (List Int) turns2, .own (List Int) none y28.2.1, .own Int none y28.2.2, .val Int y28.1.1, .val (Option Int) y28.1.2, .non, .non, .non, .non, .non]) (m_call2 5 6 (n := fun y27 => [.val (List (List Int)) rows, .val (List Int) ends, .val (List Int) costs, .val Int width1, .val (List Int) turns2, .own (List Int) none y27.1, .own Int none y27.2, .val Int y23.1, .val (Option Int) y8.1.2, .non, .non, .non, .non, .non]) C (ok__improve G) (a_consp (e_var 7) (a_consp (e_var 3) a_nil))) (g_pair C.calm (g_name 7 C.nd) (g_name 8 C.nd))) fun y28 => (r_cons (n_setF 9 (n3 := fun amounts29 => [.val (List (List Int)) rows, .val (List Int) ends, .val (List Int) costs, .val Int width1, .val (List Int) turns2, .own (List Int) none y28.2.1, .own Int none y28.2.2, .val Int y28.1.1, .val (Option Int) y28.1.2, .own Int none amounts29, .non, .non, .non, .non]) C.nd (f_repp (FG.lg (f_list (mk := fun u => [u.1]) (a_consp e_int a_nil))) (e_var 3))) fun amounts29 => (r_free 6 (ρ' := [.val (List (List Int)) rows, .val (List Int) ends, .val (List Int) costs, .val Int width1, .val (List Int) turns2, .own (List Int) none y28.2.1, .val (List Int) y28.2.2, .val Int y28.1.1, .val (Option Int) y28.1.2, .own Int none amounts29, .non, .non, .non, .non]) (r_cons (n_for (ρl := fun (r30 : (List Int)) => [.val (List (List Int)) rows, .val (List Int) ends, .val (List Int) costs, .val Int width1, .val (List Int) turns2, .own (List Int) none y28.2.1, .val (List Int) y28.2.2, .val Int y28.1.1, .val (Option Int) y28.1.2, .own Int none r30, .non, .non, .non, .non]) (s0 := amounts29) C (i_enump (e_var 6) G.n_enumerate) (g_pair C.calm (g_name 10 C.nd) (g_name 11 C.nd)) (.s (.s (.s (.s (.s (.s (.s (.s (.s (.s (.n (.n (.n (.n .nil)))))))))))))) (fun r30 v31 => b_at [.val (List (List Int)) rows, .val (List Int) ends, .val (List Int) costs, .val Int width1, .val (List Int) turns2, .own (List Int) none y28.2.1, .val (List Int) y28.2.2, .val Int y28.1.1, .val (Option Int) y28.1.2, .own Int none r30, .val Int v31.1, .val Int v31.2, .non, .non] (b_cons (n_ifp (n := fun (r32 : (List Int)) => [.val (List (List Int)) rows, .val (List Int) ends, .val (List Int) costs, .val Int width1, .val (List Int) turns2, .own (List Int) none y28.2.1, .val (List Int) y28.2.2, .val Int y28.1.1, .val (Option Int) y28.1.2, .own Int none r32, .val Int v31.1, .val Int v31.2, .non, .non]) (CJ.t (e_ltp (e_var 11) (e_var 3))) (b_cons (n_setix 9 (n3 := fun amounts35 => [.val (List (List Int)) rows, .val (List Int) ends, .val (List Int) costs, .val Int width1, .val (List Int) turns2, .own (List Int) none y28.2.1, .val (List Int) y28.2.2, .val Int y28.1.1, .val (Option Int) y28.1.2, .own Int none amounts35, .val Int v31.1, .val Int v31.2, .non, .non]) (e_ix (EG.lg (e_ixp (l_own 5) (e_var 10))) (e_negp e_int)) (e_var 11)) fun amounts35 => (b_nil (.s (.s (.s (.s (.s (.s (.s (.s (.s (.s (.s (.s (.n (.n .nil)))))))))))))))) (b_nil (.s (.s (.s (.s (.s (.s (.s (.s (.s (.s (.s (.s (.n (.n .nil)))))))))))))))) fun r32 => (b_nil (.s (.s (.s (.s (.s (.s (.s (.s (.s (.s (.n (.n (.n (.n .nil)))))))))))))))))) fun r30 => (r_ifp (CJ.t (e_isnotNp (e_var 8))) (r_retX (x_conv (f := fun p : Str × Int × (List Int) × (List Int) × Unit => (LC.c4 p.1 p.2.1 p.2.2.1 p.2.2.2.1)) (ov2 := fun r : LC => (LC.ov r)) (x_tup (xa_cons (x_val e_str) (xa_cons (x_val (e_var 7)) (xa_cons (x_mv 9 (ρ1 := [.val (List (List Int)) rows, .val (List Int) ends, .val (List Int) costs, .val Int width1, .val (List Int) turns2, .own (List Int) none y28.2.1, .val (List Int) y28.2.2, .val Int y28.1.1, .val (Option Int) y28.1.2, .non, .non, .non, .non, .non]) (xs := r30)) (xa_cons (x_new (f_lend (ρ' := [.val (List (List Int)) rows, .val (List Int) ends, .val (List Int) costs, .val Int width1, .val (List Int) turns2, .val (List (List Int)) y28.2.1, .val (List Int) y28.2.2, .val Int y28.1.1, .val (Option Int) y28.1.2, .non, .non, .non, .non, .non]) (lend_own (T := (List Int)) (xs := y28.2.1) 5 Lend.refl) (f_call C (ok__way G) (a_consp (e_var 5) (a_consp (e_var 6) (a_consp (e_var 7) (a_cons (e_getOp (e_var 8)) fun a39 => (a_consp (e_var 3) a_nil)))))))) xa_nil))))))) (r_retX (x_conv (f := fun p : Str × Int × (List Int) × (List Int) × Unit => (LC.c4 p.1 p.2.1 p.2.2.1 p.2.2.2.1)) (ov2 := fun r : LC => (LC.ov r)) (x_tup (xa_cons (x_val e_str) (xa_cons (x_val (e_var 7)) (xa_cons (x_mv 9 (ρ1 := [.val (List (List Int)) rows, .val (List Int) ends, .val (List Int) costs, .val Int width1, .val (List Int) turns2, .own (List Int) none y28.2.1, .val (List Int) y28.2.2, .val Int y28.1.1, .val (Option Int) y28.1.2, .non, .non, .non, .non, .non]) (xs := r30)) (xa_cons (x_new (f_lc (ow := [(Str.ofString "at", 10), (Str.ofString "turn", 13)]) (ρw := [.val (List (List Int)) rows, .val (List Int) ends, .val (List Int) costs, .val Int width1, .val (List Int) turns2, .own (List Int) none y28.2.1, .val (List Int) y28.2.2, .val Int y28.1.1, .val (Option Int) y28.1.2, .non, .non, .non, .non, .non]) C (i_enump (e_var 4) G.n_enumerate) (fun s H Cc cl fp => ⟨(g_pair C.blk.calm (g_name 10 C.blk.nd) (g_name 13 C.blk.nd)), fun _ => lc_none, fun v41 => e_at [.val (List (List Int)) rows, .val (List Int) ends, .val (List Int) costs, .val Int width1, .val (List Int) turns2, .own (List Int) none y28.2.1, .val (List Int) y28.2.2, .val Int y28.1.1, .val (Option Int) y28.1.2, .non, .val Int v41.1, .non, .non, .val Int v41.2] (e_mul (e_negp (e_var 13)) (e_ix (EG.lg (e_ixp (l_own 5) (e_negp e_int))) (e_addp (e_var 3) (e_var 10))))⟩))) xa_nil)))))))))))))))))))
def m__law_is_whole (x : PD) : Res Bool :=
  (Res.ok ((isInt x) && (!(isBl x))))
abbrev s__law_is_whole : Stmt := topS 12
theorem sc__law_is_whole : FnScope ["x"] ["x"] (defScope s__law_is_whole) := ⟨rfl, rfl, rfl, by decide +kernel, rfl, by decide +kernel, by decide +kernel⟩
theorem ok__law_is_whole {P : Program} {w : World} {K : PySem.W.Frag} {mg : Str → Option Value} {base : Heap} (G : Fx P K mg) : FOk P w K mg base "_law_is_whole" 1 (spOf K (asC (T := PD) asN) (fun u : PD × Unit => m__law_is_whole u.1)) := by
  obtain ⟨fd, F⟩ := G.d__law_is_whole
  refine fok_data (ρ0 := fun u : PD × Unit => [.val PD u.1]) F G.g__law_is_whole sc__law_is_whole (F.bindsN (ps := ["x"]) fun _ _ _ _ _ _ us hl => match us, hl with | [_], _ => rfl) (by intro _; rfl) (by intro _; rfl) fun cdv A outer s H E C => ?_
  rintro ⟨x, ⟨⟩⟩
  show SR _ _ none [.val PD x] _ (retD Bool) (m__law_is_whole x)
  unfold m__law_is_whole
  exact (r_ret (e_andp (e_isip (f := isInt) (hk := isInt_ok) (e_var 0) G.n_isinstance G.n_int) (e_and1 (e_notp (e_isip (f := isBl) (hk := isBl_ok) (e_var 0) G.n_isinstance G.n_bool)))))
def m__law_cell (script : Scr) (k : Int) : Res Int :=
  (if decide (k < (script.ns.length : Int)) then (idxM script.ns k) else (Res.ok 0))
abbrev s__law_cell : Stmt := topS 13
theorem sc__law_cell : FnScope ["script", "k"] ["script", "k"] (defScope s__law_cell) := ⟨rfl, rfl, rfl, by decide +kernel, rfl, by decide +kernel, by decide +kernel⟩
theorem ok__law_cell {P : Program} {w : World} {K : PySem.W.Frag} {mg : Str → Option Value} {base : Heap} (G : Fx P K mg) : FOk P w K mg base "_law_cell" 1 (spOf K (asC (T := Scr) (asC (T := Int) asN)) (fun u : Scr × Int × Unit => m__law_cell u.1 u.2.1)) := by
  obtain ⟨fd, F⟩ := G.d__law_cell
  refine fok_data (ρ0 := fun u : Scr × Int × Unit => [.val Scr u.1, .val Int u.2.1]) F G.g__law_cell sc__law_cell (F.bindsN (ps := ["script", "k"]) fun _ _ _ _ _ _ us hl => match us, hl with | [_, _], _ => rfl) (by intro _; rfl) (by intro _; rfl) fun cdv A outer s H E C => ?_
  rintro ⟨script, k, ⟨⟩⟩
  show SR _ _ none [.val Scr script, .val Int k] _ (retD Int) (m__law_cell script k)
  unfold m__law_cell
  exact (r_ifp (CJ.t (e_ltp (e_var 1) (e_lenscr (e_var 0) G.n_len))) (r_ret (e_ixscrp (e_var 0) (e_var 1))) (r_ret e_int))
def m__law_many (script : Scr) (k : Int) (many : Int) (limit : Int) : Res (List Int) :=
  (Res.bind (m__law_cell script k) fun cell1 => (Res.bind (Res.ok ((cell1).natAbs : Int)) fun left2 => (Res.bind (Res.ok ([] : List Int)) fun found3 => (Res.bind (Res.bind (guardR (inRange many) (Res.ok (rng 0 many))) fun z40 => forR (fun (r4 : Int × (List Int)) turn5 => (Res.bind (Res.bind (andM (Res.bind (Res.ok ((cell1).natAbs : Int)) fun x6 => Res.bind (powM 10 18) fun y7 => Res.ok (decide (y7 ≤ x6))) (Res.ok (decide (0 < r4.1)))) fun k39 => if k39 then (Res.bind (Res.bind (modM r4.1 limit) fun y10 => appM r4.2 y10) fun found9 => (Res.bind (divM r4.1 limit) fun left11 => (Res.ok (left11, found9)))) else (Res.bind (Res.bind (Res.bind (Res.bind (Res.bind (mulM cell1 48271) fun x13 => Res.bind (mulM turn5 69621) fun y14 => Res.ok (x13 + y14)) fun x15 => Res.bind (mulM 17 k) fun y16 => Res.ok (x15 + y16)) fun x17 => Res.bind (Res.ok 11) fun y18 => Res.ok (x17 + y18)) fun x19 => Res.bind (Res.ok 2147483647) fun y20 => modM x19 y20) fun mixed12 => (Res.bind (Res.bind (Res.bind (Res.bind (mulM mixed12 mixed12) fun x22 => Res.bind (mulM turn5 40692) fun y23 => Res.ok (x22 + y23)) fun x24 => Res.bind (Res.ok 3) fun y25 => Res.ok (x24 + y25)) fun x26 => Res.bind (Res.ok 2147483399) fun y27 => modM x26 y27) fun mixed21 => (Res.bind (Res.bind (Res.bind (Res.bind (mulM mixed21 mixed21) fun x29 => Res.bind (mulM turn5 7) fun y30 => Res.ok (x29 + y30)) fun x31 => Res.bind (Res.ok k) fun y32 => Res.ok (x31 + y32)) fun x33 => Res.bind (Res.ok 2147483579) fun y34 => modM x33 y34) fun mixed28 => (Res.bind (Res.bind (Res.bind (divM mixed28 64) fun x35 => Res.bind (Res.ok limit) fun y36 => modM x35 y36) fun y38 => appM r4.2 y38) fun found37 => (Res.ok (r4.1, found37))))))) fun r8 => (Res.ok (r8.1, r8.2)))) z40 (left2, found3)) fun r4 => (Res.ok r4.2)))))
abbrev s__law_many : Stmt := topS 14
theorem sc__law_many : FnScope ["script", "k", "many", "limit", "cell", "left", "found", "turn", "mixed"] ["script", "k", "many", "limit"] (defScope s__law_many) := ⟨rfl, rfl, rfl, by decide +kernel, rfl, by decide +kernel, by decide +kernel⟩
theorem ok__law_many {P : Program} {w : World} {K : PySem.W.Frag} {mg : Str → Option Value} {base : Heap} (G : Fx P K mg) : FOk P w K mg base "_law_many" 2 (spFr K (asC (T := Scr) (asC (T := Int) (asC (T := Int) (asC (T := Int) asN)))) (fun u : Scr × Int × Int × Int × Unit => m__law_many u.1 u.2.1 u.2.2.1 u.2.2.2.1)) := by
  obtain ⟨fd, F⟩ := G.d__law_many
  refine fok_fr (ρ0 := fun u : Scr × Int × Int × Int × Unit => [.val Scr u.1, .val Int u.2.1, .val Int u.2.2.1, .val Int u.2.2.2.1, .non, .non, .non, .non, .non]) F G.g__law_many sc__law_many (F.bindsN (ps := ["script", "k", "many", "limit"]) fun _ _ _ _ _ _ us hl => match us, hl with | [_, _, _, _], _ => rfl) (by intro _; rfl) (by intro _; rfl) fun cdv A outer s H E C => ?_
  rintro ⟨script, k, many, limit, ⟨⟩⟩
  show SR _ _ none [.val Scr script, .val Int k, .val Int many, .val Int limit, .non, .non, .non, .non, .non] _ (retF Int) (m__law_many script k many limit)
  unfold m__law_many
  exact (r_cons (n_set 4 (n3 := fun cell1 => [.val Scr script, .val Int k, .val Int many, .val Int limit, .val Int cell1, .non, .non, .non, .non]) C.nd (e_call C (ok__law_cell G) (a_consp (e_var 0) (a_consp (e_var 1) a_nil)))) fun cell1 => (r_cons (n_set 5 (n3 := fun left2 => [.val Scr script, .val Int k, .val Int many, .val Int limit, .val Int cell1, .val Int left2, .non, .non, .non]) C.nd (e_absp (e_var 4) G.n_abs)) fun left2 => (r_cons (n_setF 6 (n3 := fun found3 => [.val Scr script, .val Int k, .val Int many, .val Int limit, .val Int cell1, .val Int left2, .own Int none found3, .non, .non]) C.nd (f_list (mk := (fun _ => ([] : List Int))) a_nil)) fun found3 => (r_cons (n_for (ρl := fun (r4 : Int × (List Int)) => [.val Scr script, .val Int k, .val Int many, .val Int limit, .val Int cell1, .val Int r4.1, .own Int none r4.2, .non, .non]) (s0 := (left2, found3)) C (i_range1p (e_var 2) G.n_range) (g_name 7 C.nd) (.s (.s (.s (.s (.s (.s (.s (.n (.n .nil))))))))) (fun r4 turn5 => b_at [.val Scr script, .val Int k, .val Int many, .val Int limit, .val Int cell1, .val Int r4.1, .own Int none r4.2, .val Int turn5, .non] (b_cons (n_if (n := fun (r8 : Int × (List Int)) => [.val Scr script, .val Int k, .val Int many, .val Int limit, .val Int cell1, .val Int r8.1, .own Int none r8.2, .val Int turn5, .non]) (TWJ.pt (tw_and (CJ.t (e_ge (e_absp (e_var 4) G.n_abs) (e_powp e_int e_int))) (tw_and1 (CJ.t (e_gtp (e_var 5) e_int))))) (b_cons (n_app 6 (n3 := fun found9 => [.val Scr script, .val Int k, .val Int many, .val Int limit, .val Int cell1, .val Int r4.1, .own Int none found9, .val Int turn5, .non]) (e_modp (e_int1p (e_var 5) G.n_int) (e_var 3))) fun found9 => (b_cons (n_set 5 (n3 := fun left11 => [.val Scr script, .val Int k, .val Int many, .val Int limit, .val Int cell1, .val Int left11, .own Int none found9, .val Int turn5, .non]) C.nd (e_fdivp (e_var 5) (e_var 3))) fun left11 => (b_nil (.s (.s (.s (.s (.s (.s (.s (.s (.n .nil)))))))))))) (b_cons (n_set 8 (n3 := fun mixed12 => [.val Scr script, .val Int k, .val Int many, .val Int limit, .val Int cell1, .val Int r4.1, .own Int none r4.2, .val Int turn5, .val Int mixed12]) C.nd (e_mod (e_int1m (e_add (e_add (e_add (e_mulp (e_var 4) e_int) (e_mulp (e_var 7) e_int)) (e_mulp e_int (e_var 1))) e_int) G.n_int) e_int)) fun mixed12 => (b_cons (n_set 8 (n3 := fun mixed21 => [.val Scr script, .val Int k, .val Int many, .val Int limit, .val Int cell1, .val Int r4.1, .own Int none r4.2, .val Int turn5, .val Int mixed21]) C.nd (e_mod (e_int1m (e_add (e_add (e_mulp (e_var 8) (e_var 8)) (e_mulp (e_var 7) e_int)) e_int) G.n_int) e_int)) fun mixed21 => (b_cons (n_set 8 (n3 := fun mixed28 => [.val Scr script, .val Int k, .val Int many, .val Int limit, .val Int cell1, .val Int r4.1, .own Int none r4.2, .val Int turn5, .val Int mixed28]) C.nd (e_mod (e_int1m (e_add (e_add (e_mulp (e_var 8) (e_var 8)) (e_mulp (e_var 7) e_int)) (e_var 1)) G.n_int) e_int)) fun mixed28 => (b_cons (n_app 6 (n3 := fun found37 => [.val Scr script, .val Int k, .val Int many, .val Int limit, .val Int cell1, .val Int r4.1, .own Int none found37, .val Int turn5, .val Int mixed28]) (e_mod (e_int1m (e_fdivp (e_var 8) e_int) G.n_int) (e_var 3))) fun found37 => (b_nil (.s (.s (.s (.s (.s (.s (.s (.s (.n .nil))))))))))))))) fun r8 => (b_nil (.s (.s (.s (.s (.s (.s (.s (.n (.n .nil))))))))))))) fun r4 => (r_retOwn 6)))))
def m__law_short (x : Int) : Res Bool :=
  (Res.bind (powM 10 50) fun most1 => (Res.bind (Res.ok ((x).natAbs : Int)) fun x6 => Res.bind (Res.bind (Res.bind (mulM most1 most1) fun x2 => Res.bind (Res.ok most1) fun y3 => mulM x2 y3) fun x4 => Res.bind (Res.ok most1) fun y5 => mulM x4 y5) fun y7 => Res.ok (decide (x6 < y7))))
abbrev s__law_short : Stmt := topS 15
theorem sc__law_short : FnScope ["x", "most"] ["x"] (defScope s__law_short) := ⟨rfl, rfl, rfl, by decide +kernel, rfl, by decide +kernel, by decide +kernel⟩
theorem ok__law_short {P : Program} {w : World} {K : PySem.W.Frag} {mg : Str → Option Value} {base : Heap} (G : Fx P K mg) : FOk P w K mg base "_law_short" 1 (spOf K (asC (T := Int) asN) (fun u : Int × Unit => m__law_short u.1)) := by
  obtain ⟨fd, F⟩ := G.d__law_short
  refine fok_data (ρ0 := fun u : Int × Unit => [.val Int u.1, .non]) F G.g__law_short sc__law_short (F.bindsN (ps := ["x"]) fun _ _ _ _ _ _ us hl => match us, hl with | [_], _ => rfl) (by intro _; rfl) (by intro _; rfl) fun cdv A outer s H E C => ?_
  rintro ⟨x, ⟨⟩⟩
  show SR _ _ none [.val Int x, .non] _ (retD Bool) (m__law_short x)
  unfold m__law_short
  exact (r_cons (n_set 1 (n3 := fun most1 => [.val Int x, .val Int most1]) C.nd (e_powp e_int e_int)) fun most1 => (r_ret (CJ.v (e_lt (e_absp (e_var 0) G.n_abs) (e_mul (e_mul (e_mulp (e_var 1) (e_var 1)) (e_var 1)) (e_var 1))))))
def m__law_value (row : List Int) (numbers : List Int) : Res Int :=
  (Res.bind (Res.bind (guardR (inRange (row.length : Int)) (Res.ok (rng 0 (row.length : Int)))) fun z5 => lcX (fun _ => Res.ok true) (fun at'2 => (Res.bind (idxM row at'2) fun x3 => Res.bind (idxM numbers at'2) fun y4 => mulM x3 y4)) z5) fun x6 => Res.ok x6.sum)
abbrev s__law_value : Stmt := topS 16
theorem sc__law_value : FnScope ["row", "numbers", "at"] ["row", "numbers"] (defScope s__law_value) := ⟨rfl, rfl, rfl, by decide +kernel, rfl, by decide +kernel, by decide +kernel⟩
theorem ok__law_value {P : Program} {w : World} {K : PySem.W.Frag} {mg : Str → Option Value} {base : Heap} (G : Fx P K mg) : FOk P w K mg base "_law_value" 1 (spOf K (asC (T := (List Int)) (asC (T := (List Int)) asN)) (fun u : (List Int) × (List Int) × Unit => m__law_value u.1 u.2.1)) := by
  obtain ⟨fd, F⟩ := G.d__law_value
  refine fok_data (ρ0 := fun u : (List Int) × (List Int) × Unit => [.val (List Int) u.1, .val (List Int) u.2.1, .non]) F G.g__law_value sc__law_value (F.bindsN (ps := ["row", "numbers"]) fun _ _ _ _ _ _ us hl => match us, hl with | [_, _], _ => rfl) (by intro _; rfl) (by intro _; rfl) fun cdv A outer s H E C => ?_
  rintro ⟨row, numbers, ⟨⟩⟩
  show SR _ _ none [.val (List Int) row, .val (List Int) numbers, .non] _ (retD Int) (m__law_value row numbers)
  unfold m__law_value
  exact (r_ret (e_sum C.calm (FG.lg (f_lc (ow := [(Str.ofString "at", 2)]) (ρw := [.val (List Int) row, .val (List Int) numbers, .non]) C (i_range1p (e_lenl (EG.lg (e_var 0)) G.n_len) G.n_range) (fun s H Cc cl fp => ⟨(g_name 2 C.blk.nd), fun _ => lc_none, fun at'2 => e_at [.val (List Int) row, .val (List Int) numbers, .val Int at'2] (e_mul (e_ixp (EG.lg (e_var 0)) (e_var 2)) (e_ixp (EG.lg (e_var 1)) (e_var 2)))⟩))) G.n_sum))
def m__law_value_o2 (row : List Int) (numbers : PD) : Res Int :=
  (Res.bind (Res.bind (guardR (inRange (row.length : Int)) (Res.ok (rng 0 (row.length : Int)))) fun z5 => lcX (fun _ => Res.ok true) (fun at'2 => (Res.bind (idxM row at'2) fun x3 => Res.bind (Res.bind (idxD numbers at'2) asI) fun y4 => mulM x3 y4)) z5) fun x6 => Res.ok x6.sum)
theorem ok__law_value_o2 {P : Program} {w : World} {K : PySem.W.Frag} {mg : Str → Option Value} {base : Heap} (G : Fx P K mg) : FOk P w K mg base "_law_value" 1 (spOf K (asC (T := (List Int)) (asC (T := PD) asN)) (fun u : (List Int) × PD × Unit => m__law_value_o2 u.1 u.2.1)) := by
  obtain ⟨fd, F⟩ := G.d__law_value
  refine fok_data (ρ0 := fun u : (List Int) × PD × Unit => [.val (List Int) u.1, .val PD u.2.1, .non]) F G.g__law_value sc__law_value (F.bindsN (ps := ["row", "numbers"]) fun _ _ _ _ _ _ us hl => match us, hl with | [_, _], _ => rfl) (by intro _; rfl) (by intro _; rfl) fun cdv A outer s H E C => ?_
  rintro ⟨row, numbers, ⟨⟩⟩
  show SR _ _ none [.val (List Int) row, .val PD numbers, .non] _ (retD Int) (m__law_value_o2 row numbers)
  unfold m__law_value_o2
  exact (r_ret (e_sum C.calm (FG.lg (f_lc (ow := [(Str.ofString "at", 2)]) (ρw := [.val (List Int) row, .val PD numbers, .non]) C (i_range1p (e_lenl (EG.lg (e_var 0)) G.n_len) G.n_range) (fun s H Cc cl fp => ⟨(g_name 2 C.blk.nd), fun _ => lc_none, fun at'2 => e_at [.val (List Int) row, .val PD numbers, .val Int at'2] (e_mul (e_ixp (EG.lg (e_var 0)) (e_var 2)) (e_asI (e_ixDp (e_var 1) (e_var 2))))⟩))) G.n_sum))
def m__law_whole_list (actual : PD) (many : Int) : Res Bool :=
  (Res.bind (orM (Res.ok (!(isLst actual))) (Res.bind (Len.len actual) fun x1 => Res.bind (Res.ok many) fun y2 => Res.ok (!decide (x1 = y2)))) fun k9 => if k9 then (Res.ok false) else (Res.bind (Res.bind (Res.bind (Res.bind (Res.ok actual) itD) fun z6 => lcX (fun x4 => (andM (m__law_is_whole x4) (Res.bind (asI x4) fun a5 => m__law_short a5))) (fun x4 => (Res.ok x4)) z6) Len.len) fun x7 => Res.bind (Res.ok many) fun y8 => Res.ok (decide (x7 = y8))))
abbrev s__law_whole_list : Stmt := topS 17
theorem sc__law_whole_list : FnScope ["actual", "many", "x"] ["actual", "many"] (defScope s__law_whole_list) := ⟨rfl, rfl, rfl, by decide +kernel, rfl, by decide +kernel, by decide +kernel⟩
theorem ok__law_whole_list {P : Program} {w : World} {K : PySem.W.Frag} {mg : Str → Option Value} {base : Heap} (G : Fx P K mg) : FOk P w K mg base "_law_whole_list" 2 (spOf K (asC (T := PD) (asC (T := Int) asN)) (fun u : PD × Int × Unit => m__law_whole_list u.1 u.2.1)) := by
  obtain ⟨fd, F⟩ := G.d__law_whole_list
  refine fok_data (ρ0 := fun u : PD × Int × Unit => [.val PD u.1, .val Int u.2.1, .non]) F G.g__law_whole_list sc__law_whole_list (F.bindsN (ps := ["actual", "many"]) fun _ _ _ _ _ _ us hl => match us, hl with | [_, _], _ => rfl) (by intro _; rfl) (by intro _; rfl) fun cdv A outer s H E C => ?_
  rintro ⟨actual, many, ⟨⟩⟩
  show SR _ _ none [.val PD actual, .val Int many, .non] _ (retD Bool) (m__law_whole_list actual many)
  unfold m__law_whole_list
  exact (r_if (TWJ.pt (tw_or (t_notp (t_val (e_isip (f := isLst) (hk := isLst_ok) (e_var 0) G.n_isinstance G.n_list))) (tw_or1 (CJ.t (e_ne (e_lenp (e_var 0) G.n_len) (e_var 1)))))) (r_ret e_bool) (r_ret (CJ.v (e_eq (e_len (FG.ej (f_lc (ow := [(Str.ofString "x", 2)]) (ρw := [.val PD actual, .val Int many, .non]) C (i_D (e_var 0)) (fun s H Cc cl fp => ⟨(g_name 2 C.blk.nd), fun x4 => lc_one (t_at [.val PD actual, .val Int many, .val PD x4] (TWJ.pt (tw_and (t_val (e_call C.blk (ok__law_is_whole G) (a_consp (e_var 2) a_nil))) (tw_and1 (t_val (e_call C.blk (ok__law_short G) (a_cons (e_asIp (e_var 2)) fun a5 => a_nil))))))), fun x4 => e_at [.val PD actual, .val Int many, .val PD x4] (e_var 2)⟩))) G.n_len) (e_var 1)))))
def m__law_column (rows : List (List Int)) (prices : PD) (column : Int) : Res Int :=
  (Res.bind (Res.bind (guardR (inRange (rows.length : Int)) (Res.ok (rng 0 (rows.length : Int)))) fun z7 => lcX (fun _ => Res.ok true) (fun at'2 => (Res.bind (Res.bind (idxD prices at'2) asI) fun x5 => Res.bind (Res.bind (idxM rows at'2) fun x3 => Res.bind (Res.ok column) fun y4 => idxM x3 y4) fun y6 => mulM x5 y6)) z7) fun x8 => Res.ok x8.sum)
abbrev s__law_column : Stmt := topS 18
theorem sc__law_column : FnScope ["rows", "prices", "column", "at"] ["rows", "prices", "column"] (defScope s__law_column) := ⟨rfl, rfl, rfl, by decide +kernel, rfl, by decide +kernel, by decide +kernel⟩
theorem ok__law_column {P : Program} {w : World} {K : PySem.W.Frag} {mg : Str → Option Value} {base : Heap} (G : Fx P K mg) : FOk P w K mg base "_law_column" 1 (spOf K (asC (T := (List (List Int))) (asC (T := PD) (asC (T := Int) asN))) (fun u : (List (List Int)) × PD × Int × Unit => m__law_column u.1 u.2.1 u.2.2.1)) := by
  obtain ⟨fd, F⟩ := G.d__law_column
  refine fok_data (ρ0 := fun u : (List (List Int)) × PD × Int × Unit => [.val (List (List Int)) u.1, .val PD u.2.1, .val Int u.2.2.1, .non]) F G.g__law_column sc__law_column (F.bindsN (ps := ["rows", "prices", "column"]) fun _ _ _ _ _ _ us hl => match us, hl with | [_, _, _], _ => rfl) (by intro _; rfl) (by intro _; rfl) fun cdv A outer s H E C => ?_
  rintro ⟨rows, prices, column, ⟨⟩⟩
  show SR _ _ none [.val (List (List Int)) rows, .val PD prices, .val Int column, .non] _ (retD Int) (m__law_column rows prices column)
  unfold m__law_column
  exact (r_ret (e_sum C.calm (FG.lg (f_lc (ow := [(Str.ofString "at", 3)]) (ρw := [.val (List (List Int)) rows, .val PD prices, .val Int column, .non]) C (i_range1p (e_lenl (EG.lg (e_var 0)) G.n_len) G.n_range) (fun s H Cc cl fp => ⟨(g_name 3 C.blk.nd), fun _ => lc_none, fun at'2 => e_at [.val (List (List Int)) rows, .val PD prices, .val Int column, .val Int at'2] (e_mul (e_asI (e_ixDp (e_var 1) (e_var 3))) (e_ix (EG.lg (e_ixp (EG.lg (e_var 0)) (e_var 3))) (e_var 2)))⟩))) G.n_sum))
def m__law_none (rows : List (List Int)) (ends : List Int) (costs : List Int) (answer : PD) : Res Bool :=
  (Res.bind (orM (Res.bind (Len.len answer) fun x1 => Res.bind (Res.ok 2) fun y2 => Res.ok (!decide (x1 = y2))) (Res.bind (Res.bind (idxD answer 1) fun a3 => m__law_whole_list a3 (rows.length : Int)) fun x4 => Res.ok (!x4))) fun k15 => if k15 then (Res.ok false) else (thenR (Res.bind (guardR (inRange (costs.length : Int)) (Res.ok (rng 0 (costs.length : Int)))) fun z11 => forC (fun (r5 : Unit) column6 => (Res.bind (Res.bind (Res.bind (idxD answer 1) fun a7 => m__law_column rows a7 column6) fun x8 => Res.bind (Res.ok 0) fun y9 => Res.ok (decide (y9 < x8))) fun k10 => if k10 then liftC (Res.ok (Ctl.rt false)) else (Res.ok (Ctl.nx ())))) z11 ()) fun r5 => (Res.bind (Res.bind (idxD answer 1) fun a12 => m__law_value_o2 ends a12) fun x13 => Res.bind (Res.ok 0) fun y14 => Res.ok (decide (y14 < x13)))))
abbrev s__law_none : Stmt := topS 19
theorem sc__law_none : FnScope ["rows", "ends", "costs", "answer", "column"] ["rows", "ends", "costs", "answer"] (defScope s__law_none) := ⟨rfl, rfl, rfl, by decide +kernel, rfl, by decide +kernel, by decide +kernel⟩
theorem ok__law_none {P : Program} {w : World} {K : PySem.W.Frag} {mg : Str → Option Value} {base : Heap} (G : Fx P K mg) : FOk P w K mg base "_law_none" 3 (spOf K (asC (T := (List (List Int))) (asC (T := (List Int)) (asC (T := (List Int)) (asC (T := PD) asN)))) (fun u : (List (List Int)) × (List Int) × (List Int) × PD × Unit => m__law_none u.1 u.2.1 u.2.2.1 u.2.2.2.1)) := by
  obtain ⟨fd, F⟩ := G.d__law_none
  refine fok_data (ρ0 := fun u : (List (List Int)) × (List Int) × (List Int) × PD × Unit => [.val (List (List Int)) u.1, .val (List Int) u.2.1, .val (List Int) u.2.2.1, .val PD u.2.2.2.1, .non]) F G.g__law_none sc__law_none (F.bindsN (ps := ["rows", "ends", "costs", "answer"]) fun _ _ _ _ _ _ us hl => match us, hl with | [_, _, _, _], _ => rfl) (by intro _; rfl) (by intro _; rfl) fun cdv A outer s H E C => ?_
  rintro ⟨rows, ends, costs, answer, ⟨⟩⟩
  show SR _ _ none [.val (List (List Int)) rows, .val (List Int) ends, .val (List Int) costs, .val PD answer, .non] _ (retD Bool) (m__law_none rows ends costs answer)
  unfold m__law_none
  exact (r_if (TWJ.pt (tw_or (CJ.t (e_ne (e_lenp (e_var 3) G.n_len) e_int)) (tw_or1 (t_not (t_val (e_call C (ok__law_whole_list G) (a_cons (e_ixDp (e_var 3) e_int) fun a3 => (a_consp (e_lenl (EG.lg (e_var 0)) G.n_len) a_nil)))))))) (r_ret e_bool) (rc_cons (b := eb) (c_for (ρl := fun (r5 : Unit) => [.val (List (List Int)) rows, .val (List Int) ends, .val (List Int) costs, .val PD answer, .non]) (s0 := ()) C (i_range1p (e_lenl (EG.lg (e_var 2)) G.n_len) G.n_range) (g_name 4 C.nd) (.s (.s (.s (.s (.n .nil))))) (fun r5 column6 => c_at [.val (List (List Int)) rows, .val (List Int) ends, .val (List Int) costs, .val PD answer, .val Int column6] (c_if1 (CJ.t (e_gt (e_call C (ok__law_column G) (a_consp (e_var 0) (a_cons (e_ixDp (e_var 3) e_int) fun a7 => (a_consp (e_var 4) a_nil)))) e_int)) (SR.cp (r_ret e_bool)) (c_nil (.s (.s (.s (.s (.n .nil))))))))) fun r5 => (r_ret (CJ.v (e_gt (e_call C (ok__law_value_o2 G) (a_consp (e_var 1) (a_cons (e_ixDp (e_var 3) e_int) fun a12 => a_nil))) e_int)))))
def m__law_meets (rows : List (List Int)) (amounts : PD) (ends : List Int) (bottom : Int) : Res Bool :=
  (thenR (Res.bind (guardR (inRange (rows.length : Int)) (Res.ok (rng 0 (rows.length : Int)))) fun z9 => forC (fun (r1 : Unit) at'2 => (Res.bind (Res.bind (Res.bind (idxM rows at'2) fun a3 => m__law_value_o2 a3 amounts) fun x6 => Res.bind (Res.bind (Res.ok bottom) fun x4 => Res.bind (idxM ends at'2) fun y5 => mulM x4 y5) fun y7 => Res.ok (!decide (x6 = y7))) fun k8 => if k8 then liftC (Res.ok (Ctl.rt false)) else (Res.ok (Ctl.nx ())))) z9 ()) fun r1 => (Res.bind (Res.bind (Res.bind (Res.bind (Res.ok amounts) itD) fun z14 => lcX (fun x11 => (Res.bind (asI x11) fun x12 => Res.bind (Res.ok 0) fun y13 => Res.ok (decide (x12 < y13)))) (fun x11 => (Res.ok x11)) z14) Len.len) fun x15 => Res.bind (Res.ok 0) fun y16 => Res.ok (decide (x15 = y16))))
abbrev s__law_meets : Stmt := topS 20
theorem sc__law_meets : FnScope ["rows", "amounts", "ends", "bottom", "at", "x"] ["rows", "amounts", "ends", "bottom"] (defScope s__law_meets) := ⟨rfl, rfl, rfl, by decide +kernel, rfl, by decide +kernel, by decide +kernel⟩
theorem ok__law_meets {P : Program} {w : World} {K : PySem.W.Frag} {mg : Str → Option Value} {base : Heap} (G : Fx P K mg) : FOk P w K mg base "_law_meets" 2 (spOf K (asC (T := (List (List Int))) (asC (T := PD) (asC (T := (List Int)) (asC (T := Int) asN)))) (fun u : (List (List Int)) × PD × (List Int) × Int × Unit => m__law_meets u.1 u.2.1 u.2.2.1 u.2.2.2.1)) := by
  obtain ⟨fd, F⟩ := G.d__law_meets
  refine fok_data (ρ0 := fun u : (List (List Int)) × PD × (List Int) × Int × Unit => [.val (List (List Int)) u.1, .val PD u.2.1, .val (List Int) u.2.2.1, .val Int u.2.2.2.1, .non, .non]) F G.g__law_meets sc__law_meets (F.bindsN (ps := ["rows", "amounts", "ends", "bottom"]) fun _ _ _ _ _ _ us hl => match us, hl with | [_, _, _, _], _ => rfl) (by intro _; rfl) (by intro _; rfl) fun cdv A outer s H E C => ?_
  rintro ⟨rows, amounts, ends, bottom, ⟨⟩⟩
  show SR _ _ none [.val (List (List Int)) rows, .val PD amounts, .val (List Int) ends, .val Int bottom, .non, .non] _ (retD Bool) (m__law_meets rows amounts ends bottom)
  unfold m__law_meets
  exact (rc_cons (b := eb) (c_for (ρl := fun (r1 : Unit) => [.val (List (List Int)) rows, .val PD amounts, .val (List Int) ends, .val Int bottom, .non, .non]) (s0 := ()) C (i_range1p (e_lenl (EG.lg (e_var 0)) G.n_len) G.n_range) (g_name 4 C.nd) (.s (.s (.s (.s (.n (.n .nil)))))) (fun r1 at'2 => c_at [.val (List (List Int)) rows, .val PD amounts, .val (List Int) ends, .val Int bottom, .val Int at'2, .non] (c_if1 (CJ.t (e_ne (e_call C (ok__law_value_o2 G) (a_cons (e_ixp (EG.lg (e_var 0)) (e_var 4)) fun a3 => (a_consp (e_var 1) a_nil))) (e_mul (e_var 3) (e_ixp (EG.lg (e_var 2)) (e_var 4))))) (SR.cp (r_ret e_bool)) (c_nil (.s (.s (.s (.s (.n (.n .nil)))))))))) fun r1 => (r_ret (CJ.v (e_eq (e_len (FG.ej (f_lc (ow := [(Str.ofString "x", 5)]) (ρw := [.val (List (List Int)) rows, .val PD amounts, .val (List Int) ends, .val Int bottom, .non, .non]) C (i_D (e_var 1)) (fun s H Cc cl fp => ⟨(g_name 5 C.blk.nd), fun x11 => lc_one (t_at [.val (List (List Int)) rows, .val PD amounts, .val (List Int) ends, .val Int bottom, .non, .val PD x11] (CJ.t (e_lt (e_asIp (e_var 5)) e_int))), fun x11 => e_at [.val (List (List Int)) rows, .val PD amounts, .val (List Int) ends, .val Int bottom, .non, .val PD x11] (e_var 5)⟩))) G.n_len) e_int))))
def m__law_right (rows : List (List Int)) (ends : List Int) (costs : List Int) (answer : PD) : Res Bool :=
  (Res.bind (orM (Res.ok (!(isTup answer))) (Res.bind (Len.len answer) fun x1 => Res.bind (Res.ok 2) fun y2 => Res.ok (decide (x1 < y2)))) fun k47 => if k47 then (Res.ok false) else (Res.bind (Res.bind (idxD answer 0) fun x3 => Res.bind (Res.ok (PD.mk (Dat.toD (Str.ofString "none")))) fun y4 => eqvD x3 y4) fun k46 => if k46 then (m__law_none rows ends costs answer) else (Res.bind (orM (Res.bind (Len.len answer) fun x5 => Res.bind (Res.ok 4) fun y6 => Res.ok (!decide (x5 = y6))) (orM (Res.bind (Res.bind (idxD answer 1) fun a7 => m__law_is_whole a7) fun x8 => Res.ok (!x8)) (Res.bind (Res.bind (idxD answer 1) asI) fun x9 => Res.bind (Res.ok 1) fun y10 => Res.ok (decide (x9 < y10))))) fun k45 => if k45 then (Res.ok false) else (Res.bind (orM (Res.bind (Res.bind (idxD answer 2) fun a11 => m__law_whole_list a11 (costs.length : Int)) fun x12 => Res.ok (!x12)) (Res.bind (Res.bind (idxD answer 2) fun a13 => Res.bind (Res.bind (idxD answer 1) asI) fun a14 => m__law_meets rows a13 ends a14) fun x15 => Res.ok (!x15))) fun k44 => if k44 then (Res.ok false) else (Res.bind (Res.bind (idxD answer 0) fun x16 => Res.bind (Res.ok (PD.mk (Dat.toD (Str.ofString "endless")))) fun y17 => eqvD x16 y17) fun k43 => if k43 then (Res.bind (Res.bind (Res.bind (idxD answer 3) fun a18 => m__law_whole_list a18 (costs.length : Int)) fun x19 => Res.ok (!x19)) fun k24 => if k24 then (Res.ok false) else (andM (Res.bind (idxD answer 3) fun a20 => m__law_meets rows a20 ends 0) (Res.bind (Res.bind (idxD answer 3) fun a21 => m__law_value_o2 costs a21) fun x22 => Res.bind (Res.ok 0) fun y23 => Res.ok (decide (x22 < y23))))) else (Res.bind (orM (Res.bind (idxD answer 0) fun x25 => Res.bind (Res.ok (PD.mk (Dat.toD (Str.ofString "least")))) fun y26 => Res.bind (eqvD x25 y26) fun k => Res.ok (!k)) (Res.bind (Res.bind (idxD answer 3) fun a27 => m__law_whole_list a27 (rows.length : Int)) fun x28 => Res.ok (!x28))) fun k42 => if k42 then (Res.ok false) else (thenR (Res.bind (guardR (inRange (costs.length : Int)) (Res.ok (rng 0 (costs.length : Int)))) fun z37 => forC (fun (r29 : Unit) column30 => (Res.bind (Res.bind (Res.bind (idxD answer 3) fun a31 => m__law_column rows a31 column30) fun x34 => Res.bind (Res.bind (Res.bind (idxD answer 1) asI) fun x32 => Res.bind (idxM costs column30) fun y33 => mulM x32 y33) fun y35 => Res.ok (decide (y35 < x34))) fun k36 => if k36 then liftC (Res.ok (Ctl.rt false)) else (Res.ok (Ctl.nx ())))) z37 ()) fun r29 => (Res.bind (Res.bind (idxD answer 3) fun a38 => m__law_value_o2 ends a38) fun x40 => Res.bind (Res.bind (idxD answer 2) fun a39 => m__law_value_o2 costs a39) fun y41 => Res.ok (decide (x40 = y41))))))))))
abbrev s__law_right : Stmt := topS 21
theorem sc__law_right : FnScope ["rows", "ends", "costs", "answer", "column"] ["rows", "ends", "costs", "answer"] (defScope s__law_right) := ⟨rfl, rfl, rfl, by decide +kernel, rfl, by decide +kernel, by decide +kernel⟩
theorem ok__law_right {P : Program} {w : World} {K : PySem.W.Frag} {mg : Str → Option Value} {base : Heap} (G : Fx P K mg) : FOk P w K mg base "_law_right" 4 (spOf K (asC (T := (List (List Int))) (asC (T := (List Int)) (asC (T := (List Int)) (asC (T := PD) asN)))) (fun u : (List (List Int)) × (List Int) × (List Int) × PD × Unit => m__law_right u.1 u.2.1 u.2.2.1 u.2.2.2.1)) := by
  obtain ⟨fd, F⟩ := G.d__law_right
  refine fok_data (ρ0 := fun u : (List (List Int)) × (List Int) × (List Int) × PD × Unit => [.val (List (List Int)) u.1, .val (List Int) u.2.1, .val (List Int) u.2.2.1, .val PD u.2.2.2.1, .non]) F G.g__law_right sc__law_right (F.bindsN (ps := ["rows", "ends", "costs", "answer"]) fun _ _ _ _ _ _ us hl => match us, hl with | [_, _, _, _], _ => rfl) (by intro _; rfl) (by intro _; rfl) fun cdv A outer s H E C => ?_
  rintro ⟨rows, ends, costs, answer, ⟨⟩⟩
  show SR _ _ none [.val (List (List Int)) rows, .val (List Int) ends, .val (List Int) costs, .val PD answer, .non] _ (retD Bool) (m__law_right rows ends costs answer)
  unfold m__law_right
  exact (r_if (TWJ.pt (tw_or (t_notp (t_val (e_isip (f := isTup) (hk := isTup_ok) (e_var 3) G.n_isinstance G.n_tuple))) (tw_or1 (CJ.t (e_lt (e_lenp (e_var 3) G.n_len) e_int))))) (r_ret e_bool) (r_if (CJ.t (e_eqvD C (e_ixDp (e_var 3) e_int) (e_toDp e_str))) (r_ret (e_call C (ok__law_none G) (a_consp (e_var 0) (a_consp (e_var 1) (a_consp (e_var 2) (a_consp (e_var 3) a_nil)))))) (r_if (TWJ.pt (tw_or (CJ.t (e_ne (e_lenp (e_var 3) G.n_len) e_int)) (tw_or (t_not (t_val (e_call C (ok__law_is_whole G) (a_cons (e_ixDp (e_var 3) e_int) fun a7 => a_nil)))) (tw_or1 (CJ.t (e_lt (e_asI (e_ixDp (e_var 3) e_int)) e_int)))))) (r_ret e_bool) (r_if (TWJ.pt (tw_or (t_not (t_val (e_call C (ok__law_whole_list G) (a_cons (e_ixDp (e_var 3) e_int) fun a11 => (a_consp (e_lenl (EG.lg (e_var 2)) G.n_len) a_nil))))) (tw_or1 (t_not (t_val (e_call C (ok__law_meets G) (a_consp (e_var 0) (a_cons (e_ixDp (e_var 3) e_int) fun a13 => (a_consp (e_var 1) (a_cons (e_asI (e_ixDp (e_var 3) e_int)) fun a14 => a_nil)))))))))) (r_ret e_bool) (r_if (CJ.t (e_eqvD C (e_ixDp (e_var 3) e_int) (e_toDp e_str))) (r_if (t_not (t_val (e_call C (ok__law_whole_list G) (a_cons (e_ixDp (e_var 3) e_int) fun a18 => (a_consp (e_lenl (EG.lg (e_var 2)) G.n_len) a_nil))))) (r_ret e_bool) (r_ret (e_and (e_call C (ok__law_meets G) (a_consp (e_var 0) (a_cons (e_ixDp (e_var 3) e_int) fun a20 => (a_consp (e_var 1) (a_consp e_int a_nil))))) (e_and1 (CJ.v (e_lt (e_call C (ok__law_value_o2 G) (a_consp (e_var 2) (a_cons (e_ixDp (e_var 3) e_int) fun a21 => a_nil))) e_int)))))) (r_if (TWJ.pt (tw_or (CJ.t (e_nevU C.units (e_ixDp (e_var 3) e_int) (e_toDp e_str))) (tw_or1 (t_not (t_val (e_call C (ok__law_whole_list G) (a_cons (e_ixDp (e_var 3) e_int) fun a27 => (a_consp (e_lenl (EG.lg (e_var 0)) G.n_len) a_nil)))))))) (r_ret e_bool) (rc_cons (b := eb) (c_for (ρl := fun (r29 : Unit) => [.val (List (List Int)) rows, .val (List Int) ends, .val (List Int) costs, .val PD answer, .non]) (s0 := ()) C (i_range1p (e_lenl (EG.lg (e_var 2)) G.n_len) G.n_range) (g_name 4 C.nd) (.s (.s (.s (.s (.n .nil))))) (fun r29 column30 => c_at [.val (List (List Int)) rows, .val (List Int) ends, .val (List Int) costs, .val PD answer, .val Int column30] (c_if1 (CJ.t (e_gt (e_call C (ok__law_column G) (a_consp (e_var 0) (a_cons (e_ixDp (e_var 3) e_int) fun a31 => (a_consp (e_var 4) a_nil)))) (e_mul (e_asI (e_ixDp (e_var 3) e_int)) (e_ixp (EG.lg (e_var 2)) (e_var 4))))) (SR.cp (r_ret e_bool)) (c_nil (.s (.s (.s (.s (.n .nil))))))))) fun r29 => (r_ret (CJ.v (e_eq (e_call C (ok__law_value_o2 G) (a_consp (e_var 1) (a_cons (e_ixDp (e_var 3) e_int) fun a38 => a_nil))) (e_call C (ok__law_value_o2 G) (a_consp (e_var 2) (a_cons (e_ixDp (e_var 3) e_int) fun a39 => a_nil)))))))))))))
def m__law_plain (answer : PD) : Res (List PD) :=
  (Res.bind (Res.ok ([] : List PD)) fun found1 => (Res.bind (Res.bind (Res.bind (Res.ok answer) itD) fun z11 => forR (fun (r2 : (List PD)) part3 => (Res.bind (if (isLst part3) then (Res.bind (Res.bind (Res.bind (Res.bind (Res.bind (Res.ok part3) tupD) fun a5 => Res.ok ((Str.ofString "list"), a5)) fun x6 => Res.ok (PD.mk (ToD.toD x6))) fun y8 => appM r2 y8) fun found7 => (Res.ok found7)) else (Res.bind (Res.bind (Res.ok (PD.mk (ToD.toD ((Str.ofString "one"), part3)))) fun y10 => appM r2 y10) fun found9 => (Res.ok found9))) fun r4 => (Res.ok r4))) z11 found1) fun r2 => (Res.ok r2)))
abbrev s__law_plain : Stmt := topS 22
theorem sc__law_plain : FnScope ["answer", "found", "part"] ["answer"] (defScope s__law_plain) := ⟨rfl, rfl, rfl, by decide +kernel, rfl, by decide +kernel, by decide +kernel⟩
theorem ok__law_plain {P : Program} {w : World} {K : PySem.W.Frag} {mg : Str → Option Value} {base : Heap} (G : Fx P K mg) : FOk P w K mg base "_law_plain" 1 (spFr K (asC (T := PD) asN) (fun u : PD × Unit => m__law_plain u.1)) := by
  obtain ⟨fd, F⟩ := G.d__law_plain
  refine fok_fr (ρ0 := fun u : PD × Unit => [.val PD u.1, .non, .non]) F G.g__law_plain sc__law_plain (F.bindsN (ps := ["answer"]) fun _ _ _ _ _ _ us hl => match us, hl with | [_], _ => rfl) (by intro _; rfl) (by intro _; rfl) fun cdv A outer s H E C => ?_
  rintro ⟨answer, ⟨⟩⟩
  show SR _ _ none [.val PD answer, .non, .non] _ (retF PD) (m__law_plain answer)
  unfold m__law_plain
  exact (r_cons (n_setF 1 (n3 := fun found1 => [.val PD answer, .own PD none found1, .non]) C.nd (f_list (mk := (fun _ => ([] : List PD))) a_nil)) fun found1 => (r_cons (n_for (ρl := fun (r2 : (List PD)) => [.val PD answer, .own PD none r2, .non]) (s0 := found1) C (i_D (e_var 0)) (g_name 2 C.nd) (.s (.s (.n .nil))) (fun r2 part3 => b_at [.val PD answer, .own PD none r2, .val PD part3] (b_cons (n_ifp (n := fun (r4 : (List PD)) => [.val PD answer, .own PD none r4, .val PD part3]) (t_val (e_isip (f := isLst) (hk := isLst_ok) (e_var 2) G.n_isinstance G.n_list)) (b_cons (n_app 1 (n3 := fun found7 => [.val PD answer, .own PD none found7, .val PD part3]) (e_toD' (e_tup (mk := (fun u => (u.1, u.2.1))) (a_consp e_str (a_cons (e_tupofD (e_var 2) G.n_tuple) fun a5 => a_nil))))) fun found7 => (b_nil (.s (.s (.s .nil))))) (b_cons (n_app 1 (n3 := fun found9 => [.val PD answer, .own PD none found9, .val PD part3]) (e_toDp' (e_tup (mk := (fun u => (u.1, u.2.1))) (a_consp e_str (a_consp (e_var 2) a_nil))))) fun found9 => (b_nil (.s (.s (.s .nil)))))) fun r4 => (b_nil (.s (.s (.n .nil))))))) fun r2 => (r_retOwn 1)))
def m_law (script : Scr) : Res Bool :=
  (Res.bind (m__law_cell script 0) fun size1 => (Res.bind (modM size1 6) fun height2 => (Res.bind (Res.bind (divM size1 6) fun x4 => Res.bind (Res.ok 8) fun y5 => modM x4 y5) fun width3 => (Res.bind (Res.bind (Res.bind (Res.bind (divM size1 48) fun x6 => Res.bind (Res.ok 16) fun y7 => modM x6 y7) fun x8 => Res.bind (Res.ok 5) fun y9 => Res.ok (decide (x8 = y9))) fun k13 => if k13 then (Res.bind (Res.ok 9) fun height11 => (Res.bind (Res.ok 16) fun width12 => (Res.ok (height11, width12)))) else (Res.ok (height2, width3))) fun r10 => (Res.bind (Res.ok 4) fun wide14 => (Res.bind (Res.bind (Res.bind (Res.bind (divM size1 768) fun x15 => Res.bind (Res.ok 8) fun y16 => modM x15 y16) fun x17 => Res.bind (Res.ok 3) fun y18 => Res.ok (decide (x17 = y18))) fun k21 => if k21 then (Res.bind (Res.ok 20000) fun wide20 => (Res.ok wide20)) else (Res.ok wide14)) fun r19 => (Res.bind (Res.bind (Res.bind (mulM r10.1 r10.2) fun a25 => Res.bind (Res.bind (mulM 2 r19) fun x23 => Res.bind (Res.ok 1) fun y24 => Res.ok (x23 + y24)) fun a26 => m__law_many script 1 a25 a26) fun z29 => lcX (fun _ => Res.ok true) (fun x28 => (Res.ok (x28 - r19))) z29) fun entries22 => (Res.bind (Res.bind (guardR (inRange r10.1) (Res.ok (rng 0 r10.1))) fun z40 => lcX (fun _ => Res.ok true) (fun at'32 => (Res.bind (Res.ok entries22) fun x37 => Res.bind (Res.bind (mulM at'32 r10.2) fun x33 => Res.ok (some x33)) fun y38 => Res.bind (Res.bind (Res.bind (mulM at'32 r10.2) fun x34 => Res.bind (Res.ok r10.2) fun y35 => Res.ok (x34 + y35)) fun x36 => Res.ok (some x36)) fun z39 => Res.ok (cut x37 y38 z39))) z40) fun rows30 => (Res.bind (m__law_many script 2 r10.2 4) fun amounts41 => (Res.bind (Res.bind (m__law_many script 3 r10.1 19) fun z45 => lcX (fun _ => Res.ok true) (fun x44 => (Res.ok (x44 - 9))) z45) fun ends42 => (Res.bind (Res.bind (Res.bind (Res.bind (divM size1 6144) fun x46 => Res.bind (Res.ok 2) fun y47 => modM x46 y47) fun x48 => Res.bind (Res.ok 0) fun y49 => Res.ok (decide (x48 = y49))) fun k55 => if k55 then (Res.bind (((Res.bind (Res.ok rows30) fun z54 => lcX (fun _ => Res.ok true) (fun row53 => (m__law_value row53 amounts41)) z54)).quiet) fun ends51 => (Res.ok ends51)) else (Res.ok ends42)) fun r50 => (Res.bind (Res.bind (m__law_many script 4 r10.2 14) fun z59 => lcX (fun _ => Res.ok true) (fun x58 => (Res.ok (x58 - 4))) z59) fun costs56 => (Res.bind (Res.bind (Res.bind (Res.bind (divM size1 12288) fun x60 => Res.bind (Res.ok 2) fun y61 => modM x60 y61) fun x62 => Res.bind (Res.ok 0) fun y63 => Res.ok (decide (x62 = y63))) fun k69 => if k69 then (Res.bind (Res.bind (Res.ok costs56) fun z68 => lcX (fun _ => Res.ok true) (fun x67 => (Res.ok ((x67).natAbs : Int))) z68) fun costs65 => (Res.ok costs65)) else (Res.ok costs56)) fun r64 => (Res.bind (Res.bind (andM (Res.ok (decide (1 < r10.1))) (Res.bind (Res.bind (divM size1 24576) fun x70 => Res.bind (Res.ok 4) fun y71 => modM x70 y71) fun x72 => Res.bind (Res.ok 0) fun y73 => Res.ok (decide (x72 = y73)))) fun k82 => if k82 then (Res.bind (Res.bind (Res.bind (idxM rows30 0) fun x75 => Res.ok x75) fun a77 => Res.bind (Res.ok (r10.1 - 1)) fun b78 => setM rows30 b78 a77) fun rows76 => (Res.bind (Res.bind (idxM r50 0) fun a80 => Res.bind (Res.ok (r10.1 - 1)) fun b81 => setM r50 b81 a80) fun ends79 => (Res.ok (rows76, ends79)))) else (Res.ok (rows30, r50))) fun r74 => (Res.bind (Res.bind (Res.ok r74.1) fun z90 => lcX (fun _ => Res.ok true) (fun row89 => (Res.ok row89)) z90) fun handed_rows87 => (Res.bind (Res.ok r74.2) fun handed_ends91 => (Res.bind (Res.ok r64) fun handed_costs92 => (Res.bind (((m_least_cost handed_rows87 handed_ends91 handed_costs92)).quiet) fun answer93 => (Res.bind (Res.bind ((((m__law_right r74.1 r74.2 r64 (PD.mk (LC.pd answer93))).quiet)).quiet) fun x94 => Res.ok (!x94)) fun k121 => if k121 then (Res.ok false) else (Res.bind (orM (Res.ok ((!Dat.dec handed_rows87 r74.1))) (orM (Res.bind (Res.ok handed_ends91) fun x95 => Res.bind (Res.ok r74.2) fun y96 => Res.ok ((!Dat.dec x95 y96))) (Res.bind (Res.ok handed_costs92) fun x97 => Res.bind (Res.ok r64) fun y98 => Res.ok ((!Dat.dec x97 y98))))) fun k120 => if k120 then (Res.ok false) else (Res.bind ((Res.bind (m__law_plain (PD.mk (LC.pd answer93))) fun y100 => guardR (noLs (y100.map PD.d)) (Res.ok y100)).quiet) fun kept99 => (Res.bind ((forR (fun (_ : Unit) (v : Int ⊕ List Int) => match v with | .inl d101 => (Res.bind (if false then (Res.bad) else (Res.ok d101)) fun r103 => (Res.ok ())) | .inr ys102 => (Res.bind (Res.bind (((Res.ok true)).quiet) fun k107 => if k107 then (Res.bind (Res.bind (Res.ok 7) fun y106 => appM ys102 y106) fun part105 => (Res.ok part105)) else (Res.ok ys102)) fun r104 => (Res.ok ()))) (LC.items answer93) ()).quiet) fun _ => (Res.bind (Res.bind (Res.ok 1) fun y109 => appM handed_ends91 y109) fun handed_ends108 => (Res.bind (Res.bind (Res.ok 1) fun y111 => appM handed_costs92 y111) fun handed_costs110 => (Res.bind (Res.bind (Res.bind (Res.ok r74.1) fun z114 => lcX (fun _ => Res.ok true) (fun row113 => (Res.ok row113)) z114) fun a115 => m_least_cost a115 r74.2 r64) fun again116 => (((andM (Res.ok (isTup (PD.mk (LC.pd again116)))) (Res.bind (Res.bind (m__law_plain (PD.mk (LC.pd again116))) fun x117 => Res.ok (PD.mk (ToD.toD x117))) fun x118 => Res.bind (Res.ok (PD.mk (ToD.toD kept99))) fun y119 => eqvD x118 y119))).quiet))))))))))))))))))))))))))
abbrev s_law : Stmt := topS 23
theorem sc_law : FnScope ["script", "size", "height", "width", "wide", "entries", "rows", "amounts", "ends", "costs", "handed_rows", "handed_ends", "handed_costs", "answer", "kept", "part", "again", "x", "at", "row"] ["script"] (defScope s_law) := ⟨rfl, rfl, rfl, by decide +kernel, rfl, by decide +kernel, by decide +kernel⟩
theorem okL_law {P : Program} {w : World} {K : PySem.W.Frag} {mg : Str → Option Value} (G : Fx P K mg) : ∃ fd, (∀ (s : Shared) (u : Value), BindsTo s fd ⟨[u], []⟩ [("script", u)]) ∧ ∀ base : Heap, FnOk P w K mg base (L2N.CX P w) 5 (He.ga K "law") fd ["script"] (spOf K (asC (T := Scr) asN) (fun u : Scr × Unit => m_law u.1)) := by
  obtain ⟨fd, F⟩ := G.d_law
  have b := FunD.bindsA (ps := ["script"]) F fun _ _ _ _ _ _ us hl => match us, hl with | [_], _ => rfl
  refine ⟨fd, fun s v => b s [v] rfl, fun base => ?_⟩
  refine fn_data (ρ0 := fun u : Scr × Unit => [.val Scr u.1, .non, .non, .non, .non, .non, .non, .non, .non, .non, .non, .non, .non, .non, .non, .non, .non, .non, .non, .non]) F sc_law (by intro _; rfl) (by intro _; rfl) fun cdv A outer s H E C => ?_
  rintro ⟨script, ⟨⟩⟩
  show SR _ _ none [.val Scr script, .non, .non, .non, .non, .non, .non, .non, .non, .non, .non, .non, .non, .non, .non, .non, .non, .non, .non, .non] _ (retD Bool) (m_law script)
  unfold m_law
  exact (r_cons (n_set 1 (n3 := fun size1 => [.val Scr script, .val Int size1, .non, .non, .non, .non, .non, .non, .non, .non, .non, .non, .non, .non, .non, .non, .non, .non, .non, .non]) C.nd (e_call C (ok__law_cell G) (a_consp (e_var 0) (a_consp e_int a_nil)))) fun size1 => (r_cons (n_set 2 (n3 := fun height2 => [.val Scr script, .val Int size1, .val Int height2, .non, .non, .non, .non, .non, .non, .non, .non, .non, .non, .non, .non, .non, .non, .non, .non, .non]) C.nd (e_modp (e_int1p (e_var 1) G.n_int) e_int)) fun height2 => (r_cons (n_set 3 (n3 := fun width3 => [.val Scr script, .val Int size1, .val Int height2, .val Int width3, .non, .non, .non, .non, .non, .non, .non, .non, .non, .non, .non, .non, .non, .non, .non, .non]) C.nd (e_mod (e_int1m (e_fdivp (e_var 1) e_int) G.n_int) e_int)) fun width3 => (r_cons (n_if (n := fun (r10 : Int × Int) => [.val Scr script, .val Int size1, .val Int r10.1, .val Int r10.2, .non, .non, .non, .non, .non, .non, .non, .non, .non, .non, .non, .non, .non, .non, .non, .non]) (CJ.t (e_eq (e_mod (e_int1m (e_fdivp (e_var 1) e_int) G.n_int) e_int) e_int)) (b_cons (n_set 2 (n3 := fun height11 => [.val Scr script, .val Int size1, .val Int height11, .val Int width3, .non, .non, .non, .non, .non, .non, .non, .non, .non, .non, .non, .non, .non, .non, .non, .non]) C.nd e_int) fun height11 => (b_cons (n_set 3 (n3 := fun width12 => [.val Scr script, .val Int size1, .val Int height11, .val Int width12, .non, .non, .non, .non, .non, .non, .non, .non, .non, .non, .non, .non, .non, .non, .non, .non]) C.nd e_int) fun width12 => (b_nil (.s (.s (.s (.s (.n (.n (.n (.n (.n (.n (.n (.n (.n (.n (.n (.n (.n (.n (.n (.n .nil))))))))))))))))))))))) (b_nil (.s (.s (.s (.s (.n (.n (.n (.n (.n (.n (.n (.n (.n (.n (.n (.n (.n (.n (.n (.n .nil)))))))))))))))))))))) fun r10 => (r_cons (n_set 4 (n3 := fun wide14 => [.val Scr script, .val Int size1, .val Int r10.1, .val Int r10.2, .val Int wide14, .non, .non, .non, .non, .non, .non, .non, .non, .non, .non, .non, .non, .non, .non, .non]) C.nd e_int) fun wide14 => (r_cons (n_if (n := fun (r19 : Int) => [.val Scr script, .val Int size1, .val Int r10.1, .val Int r10.2, .val Int r19, .non, .non, .non, .non, .non, .non, .non, .non, .non, .non, .non, .non, .non, .non, .non]) (CJ.t (e_eq (e_mod (e_int1m (e_fdivp (e_var 1) e_int) G.n_int) e_int) e_int)) (b_cons (n_set 4 (n3 := fun wide20 => [.val Scr script, .val Int size1, .val Int r10.1, .val Int r10.2, .val Int wide20, .non, .non, .non, .non, .non, .non, .non, .non, .non, .non, .non, .non, .non, .non, .non]) C.nd e_int) fun wide20 => (b_nil (.s (.s (.s (.s (.s (.n (.n (.n (.n (.n (.n (.n (.n (.n (.n (.n (.n (.n (.n (.n .nil)))))))))))))))))))))) (b_nil (.s (.s (.s (.s (.s (.n (.n (.n (.n (.n (.n (.n (.n (.n (.n (.n (.n (.n (.n (.n .nil)))))))))))))))))))))) fun r19 => (r_cons (n_set 5 (n3 := fun entries22 => [.val Scr script, .val Int size1, .val Int r10.1, .val Int r10.2, .val Int r19, .val (List Int) entries22, .non, .non, .non, .non, .non, .non, .non, .non, .non, .non, .non, .non, .non, .non]) C.nd (FG.ej (f_lc (ow := [(Str.ofString "x", 17)]) (ρw := [.val Scr script, .val Int size1, .val Int r10.1, .val Int r10.2, .val Int r19, .non, .non, .non, .non, .non, .non, .non, .non, .non, .non, .non, .non, .non, .non, .non]) C (i_list (FG.ej (f_call C (ok__law_many G) (a_consp (e_var 0) (a_consp e_int (a_cons (e_mulp (e_var 2) (e_var 3)) fun a25 => (a_cons (e_add (e_mulp e_int (e_var 4)) e_int) fun a26 => a_nil))))))) (fun s H Cc cl fp => ⟨(g_name 17 C.blk.nd), fun _ => lc_none, fun x28 => e_at [.val Scr script, .val Int size1, .val Int r10.1, .val Int r10.2, .val Int r19, .non, .non, .non, .non, .non, .non, .non, .non, .non, .non, .non, .non, .val Int x28, .non, .non] (e_subp (e_var 17) (e_var 4))⟩)))) fun entries22 => (r_cons (n_lcF 6 (n3 := fun rows30 => [.val Scr script, .val Int size1, .val Int r10.1, .val Int r10.2, .val Int r19, .val (List Int) entries22, .own (List Int) none rows30, .non, .non, .non, .non, .non, .non, .non, .non, .non, .non, .non, .non, .non]) (ow := [(Str.ofString "at", 18)]) (ρw := [.val Scr script, .val Int size1, .val Int r10.1, .val Int r10.2, .val Int r19, .val (List Int) entries22, .non, .non, .non, .non, .non, .non, .non, .non, .non, .non, .non, .non, .non, .non]) C (i_range1p (e_var 2) G.n_range) (fun s H Cc cl fp => ⟨(g_name 18 C.blk.nd), fun _ => lc_none, fun at'32 => e_at [.val Scr script, .val Int size1, .val Int r10.1, .val Int r10.2, .val Int r19, .val (List Int) entries22, .non, .non, .non, .non, .non, .non, .non, .non, .non, .non, .non, .non, .val Int at'32, .non] (FG.ej (f_slice (EG.lg (e_var 5)) (o_some (e_mulp (e_var 18) (e_var 3))) (o_some (e_add (e_mulp (e_var 18) (e_var 3)) (e_var 3)))))⟩)) fun rows30 => (r_cons (n_set 7 (n3 := fun amounts41 => [.val Scr script, .val Int size1, .val Int r10.1, .val Int r10.2, .val Int r19, .val (List Int) entries22, .own (List Int) none rows30, .val (List Int) amounts41, .non, .non, .non, .non, .non, .non, .non, .non, .non, .non, .non, .non]) C.nd (FG.ej (f_call C (ok__law_many G) (a_consp (e_var 0) (a_consp e_int (a_consp (e_var 3) (a_consp e_int a_nil))))))) fun amounts41 => (r_cons (n_lcF 8 (n3 := fun ends42 => [.val Scr script, .val Int size1, .val Int r10.1, .val Int r10.2, .val Int r19, .val (List Int) entries22, .own (List Int) none rows30, .val (List Int) amounts41, .own Int none ends42, .non, .non, .non, .non, .non, .non, .non, .non, .non, .non, .non]) (ow := [(Str.ofString "x", 17)]) (ρw := [.val Scr script, .val Int size1, .val Int r10.1, .val Int r10.2, .val Int r19, .val (List Int) entries22, .own (List Int) none rows30, .val (List Int) amounts41, .non, .non, .non, .non, .non, .non, .non, .non, .non, .non, .non, .non]) C (i_list (FG.ej (f_call C (ok__law_many G) (a_consp (e_var 0) (a_consp e_int (a_consp (e_var 2) (a_consp e_int a_nil))))))) (fun s H Cc cl fp => ⟨(g_name 17 C.blk.nd), fun _ => lc_none, fun x44 => e_at [.val Scr script, .val Int size1, .val Int r10.1, .val Int r10.2, .val Int r19, .val (List Int) entries22, .own (List Int) none rows30, .val (List Int) amounts41, .non, .non, .non, .non, .non, .non, .non, .non, .non, .val Int x44, .non, .non] (e_subp (e_var 17) e_int)⟩)) fun ends42 => (r_cons (n_if (n := fun (r50 : (List Int)) => [.val Scr script, .val Int size1, .val Int r10.1, .val Int r10.2, .val Int r19, .val (List Int) entries22, .own (List Int) none rows30, .val (List Int) amounts41, .own Int none r50, .non, .non, .non, .non, .non, .non, .non, .non, .non, .non, .non]) (CJ.t (e_eq (e_mod (e_int1m (e_fdivp (e_var 1) e_int) G.n_int) e_int) e_int)) (b_cons (n_lcFL 8 (ρ' := [.val Scr script, .val Int size1, .val Int r10.1, .val Int r10.2, .val Int r19, .val (List Int) entries22, .val (List (List Int)) rows30, .val (List Int) amounts41, .own Int none ends42, .non, .non, .non, .non, .non, .non, .non, .non, .non, .non, .non]) (n3 := fun ends51 => [.val Scr script, .val Int size1, .val Int r10.1, .val Int r10.2, .val Int r19, .val (List Int) entries22, .own (List Int) none rows30, .val (List Int) amounts41, .own Int none ends51, .non, .non, .non, .non, .non, .non, .non, .non, .non, .non, .non]) (ow := [(Str.ofString "row", 19)]) (ρw := [.val Scr script, .val Int size1, .val Int r10.1, .val Int r10.2, .val Int r19, .val (List Int) entries22, .val (List (List Int)) rows30, .val (List Int) amounts41, .own Int none ends42, .non, .non, .non, .non, .non, .non, .non, .non, .non, .non, .non]) (lend_own (T := (List Int)) (xs := rows30) 6 Lend.refl) C (i_list (e_var 6)) (fun s H Cc cl fp => ⟨(g_name 19 C.blk.nd), fun _ => lc_none, fun row53 => e_at [.val Scr script, .val Int size1, .val Int r10.1, .val Int r10.2, .val Int r19, .val (List Int) entries22, .val (List (List Int)) rows30, .val (List Int) amounts41, .own Int none ends42, .non, .non, .non, .non, .non, .non, .non, .non, .non, .non, .val (List Int) row53] (e_call C.blk (ok__law_value G) (a_consp (e_var 19) (a_consp (e_var 7) a_nil)))⟩)) fun ends51 => (b_nil (.s (.s (.s (.s (.s (.s (.s (.s (.s (.n (.n (.n (.n (.n (.n (.n (.n (.n (.n (.n .nil)))))))))))))))))))))) (b_nil (.s (.s (.s (.s (.s (.s (.s (.s (.s (.n (.n (.n (.n (.n (.n (.n (.n (.n (.n (.n .nil)))))))))))))))))))))) fun r50 => (r_cons (n_lc 9 (n3 := fun costs56 => [.val Scr script, .val Int size1, .val Int r10.1, .val Int r10.2, .val Int r19, .val (List Int) entries22, .own (List Int) none rows30, .val (List Int) amounts41, .own Int none r50, .val (List Int) costs56, .non, .non, .non, .non, .non, .non, .non, .non, .non, .non]) (ow := [(Str.ofString "x", 17)]) (ρw := [.val Scr script, .val Int size1, .val Int r10.1, .val Int r10.2, .val Int r19, .val (List Int) entries22, .own (List Int) none rows30, .val (List Int) amounts41, .own Int none r50, .non, .non, .non, .non, .non, .non, .non, .non, .non, .non, .non]) C (i_list (FG.ej (f_call C (ok__law_many G) (a_consp (e_var 0) (a_consp e_int (a_consp (e_var 3) (a_consp e_int a_nil))))))) (fun s H Cc cl fp => ⟨(g_name 17 C.blk.nd), fun _ => lc_none, fun x58 => e_at [.val Scr script, .val Int size1, .val Int r10.1, .val Int r10.2, .val Int r19, .val (List Int) entries22, .own (List Int) none rows30, .val (List Int) amounts41, .own Int none r50, .non, .non, .non, .non, .non, .non, .non, .non, .val Int x58, .non, .non] (e_subp (e_var 17) e_int)⟩)) fun costs56 => (r_cons (n_if (n := fun (r64 : (List Int)) => [.val Scr script, .val Int size1, .val Int r10.1, .val Int r10.2, .val Int r19, .val (List Int) entries22, .own (List Int) none rows30, .val (List Int) amounts41, .own Int none r50, .val (List Int) r64, .non, .non, .non, .non, .non, .non, .non, .non, .non, .non]) (CJ.t (e_eq (e_mod (e_int1m (e_fdivp (e_var 1) e_int) G.n_int) e_int) e_int)) (b_cons (n_lc 9 (n3 := fun costs65 => [.val Scr script, .val Int size1, .val Int r10.1, .val Int r10.2, .val Int r19, .val (List Int) entries22, .own (List Int) none rows30, .val (List Int) amounts41, .own Int none r50, .val (List Int) costs65, .non, .non, .non, .non, .non, .non, .non, .non, .non, .non]) (ow := [(Str.ofString "x", 17)]) (ρw := [.val Scr script, .val Int size1, .val Int r10.1, .val Int r10.2, .val Int r19, .val (List Int) entries22, .own (List Int) none rows30, .val (List Int) amounts41, .own Int none r50, .val (List Int) costs56, .non, .non, .non, .non, .non, .non, .non, .non, .non, .non]) C (i_list (e_var 9)) (fun s H Cc cl fp => ⟨(g_name 17 C.blk.nd), fun _ => lc_none, fun x67 => e_at [.val Scr script, .val Int size1, .val Int r10.1, .val Int r10.2, .val Int r19, .val (List Int) entries22, .own (List Int) none rows30, .val (List Int) amounts41, .own Int none r50, .val (List Int) costs56, .non, .non, .non, .non, .non, .non, .non, .val Int x67, .non, .non] (e_absp (e_var 17) G.n_abs)⟩)) fun costs65 => (b_nil (.s (.s (.s (.s (.s (.s (.s (.s (.s (.s (.n (.n (.n (.n (.n (.n (.n (.n (.n (.n .nil)))))))))))))))))))))) (b_nil (.s (.s (.s (.s (.s (.s (.s (.s (.s (.s (.n (.n (.n (.n (.n (.n (.n (.n (.n (.n .nil)))))))))))))))))))))) fun r64 => (r_cons (n_if (n := fun (r74 : (List (List Int)) × (List Int)) => [.val Scr script, .val Int size1, .val Int r10.1, .val Int r10.2, .val Int r19, .val (List Int) entries22, .own (List Int) none r74.1, .val (List Int) amounts41, .own Int none r74.2, .val (List Int) r64, .non, .non, .non, .non, .non, .non, .non, .non, .non, .non]) (TWJ.pt (tw_and (CJ.t (e_gtp (e_var 2) e_int)) (tw_and1 (CJ.t (e_eq (e_mod (e_int1m (e_fdivp (e_var 1) e_int) G.n_int) e_int) e_int))))) (b_cons (n_setix 6 (n3 := fun rows76 => [.val Scr script, .val Int size1, .val Int r10.1, .val Int r10.2, .val Int r19, .val (List Int) entries22, .own (List Int) none rows76, .val (List Int) amounts41, .own Int none r50, .val (List Int) r64, .non, .non, .non, .non, .non, .non, .non, .non, .non, .non]) (FG.ej (f_listof (EG.lg (e_ixp (l_own 6) e_int)) G.n_list)) (e_subp (e_var 2) e_int)) fun rows76 => (b_cons (n_setix 8 (n3 := fun ends79 => [.val Scr script, .val Int size1, .val Int r10.1, .val Int r10.2, .val Int r19, .val (List Int) entries22, .own (List Int) none rows76, .val (List Int) amounts41, .own Int none ends79, .val (List Int) r64, .non, .non, .non, .non, .non, .non, .non, .non, .non, .non]) (e_ixp (l_own 8) e_int) (e_subp (e_var 2) e_int)) fun ends79 => (b_nil (.s (.s (.s (.s (.s (.s (.s (.s (.s (.s (.n (.n (.n (.n (.n (.n (.n (.n (.n (.n .nil))))))))))))))))))))))) (b_nil (.s (.s (.s (.s (.s (.s (.s (.s (.s (.s (.n (.n (.n (.n (.n (.n (.n (.n (.n (.n .nil)))))))))))))))))))))) fun r74 => (r_free 6 (ρ' := [.val Scr script, .val Int size1, .val Int r10.1, .val Int r10.2, .val Int r19, .val (List Int) entries22, .val (List (List Int)) r74.1, .val (List Int) amounts41, .own Int none r74.2, .val (List Int) r64, .non, .non, .non, .non, .non, .non, .non, .non, .non, .non]) (r_cons (n_lc 10 (n3 := fun handed_rows87 => [.val Scr script, .val Int size1, .val Int r10.1, .val Int r10.2, .val Int r19, .val (List Int) entries22, .val (List (List Int)) r74.1, .val (List Int) amounts41, .own Int none r74.2, .val (List Int) r64, .val (List (List Int)) handed_rows87, .non, .non, .non, .non, .non, .non, .non, .non, .non]) (ow := [(Str.ofString "row", 19)]) (ρw := [.val Scr script, .val Int size1, .val Int r10.1, .val Int r10.2, .val Int r19, .val (List Int) entries22, .val (List (List Int)) r74.1, .val (List Int) amounts41, .own Int none r74.2, .val (List Int) r64, .non, .non, .non, .non, .non, .non, .non, .non, .non, .non]) C (i_list (e_var 6)) (fun s H Cc cl fp => ⟨(g_name 19 C.blk.nd), fun _ => lc_none, fun row89 => e_at [.val Scr script, .val Int size1, .val Int r10.1, .val Int r10.2, .val Int r19, .val (List Int) entries22, .val (List (List Int)) r74.1, .val (List Int) amounts41, .own Int none r74.2, .val (List Int) r64, .non, .non, .non, .non, .non, .non, .non, .non, .non, .val (List Int) row89] (FG.ej (f_listofp (EG.lg (e_var 19)) G.n_list))⟩)) fun handed_rows87 => (r_cons (n_setF 11 (n3 := fun handed_ends91 => [.val Scr script, .val Int size1, .val Int r10.1, .val Int r10.2, .val Int r19, .val (List Int) entries22, .val (List (List Int)) r74.1, .val (List Int) amounts41, .own Int none r74.2, .val (List Int) r64, .val (List (List Int)) handed_rows87, .own Int none handed_ends91, .non, .non, .non, .non, .non, .non, .non, .non]) C.nd (f_listofp (l_own 8) G.n_list)) fun handed_ends91 => (r_cons (n_setF 12 (n3 := fun handed_costs92 => [.val Scr script, .val Int size1, .val Int r10.1, .val Int r10.2, .val Int r19, .val (List Int) entries22, .val (List (List Int)) r74.1, .val (List Int) amounts41, .own Int none r74.2, .val (List Int) r64, .val (List (List Int)) handed_rows87, .own Int none handed_ends91, .own Int none handed_costs92, .non, .non, .non, .non, .non, .non, .non]) C.nd (f_listofp (EG.lg (e_var 9)) G.n_list)) fun handed_costs92 => (r_cons (n_setX 13 (n3 := fun answer93 => [.val Scr script, .val Int size1, .val Int r10.1, .val Int r10.2, .val Int r19, .val (List Int) entries22, .val (List (List Int)) r74.1, .val (List Int) amounts41, .own Int none r74.2, .val (List Int) r64, .val (List (List Int)) handed_rows87, .own Int none handed_ends91, .own Int none handed_costs92, .ow (.tup (LC.os answer93)), .non, .non, .non, .non, .non, .non]) C.nd (x_callL (ρ' := [.val Scr script, .val Int size1, .val Int r10.1, .val Int r10.2, .val Int r19, .val (List Int) entries22, .val (List (List Int)) r74.1, .val (List Int) amounts41, .own Int none r74.2, .val (List Int) r64, .val (List (List Int)) handed_rows87, .val (List Int) handed_ends91, .val (List Int) handed_costs92, .non, .non, .non, .non, .non, .non, .non]) (ov := (fun r : LC => (LC.ov r))) C (ok_least_cost G) (lend_own (T := Int) (xs := handed_ends91) 11 (lend_own (T := Int) (xs := handed_costs92) 12 Lend.refl)) LC.flat (a_consp (e_var 10) (a_consp (e_var 11) (a_consp (e_var 12) a_nil))))) fun answer93 => (r_if (t_not (t_lend (ρ' := [.val Scr script, .val Int size1, .val Int r10.1, .val Int r10.2, .val Int r19, .val (List Int) entries22, .val (List (List Int)) r74.1, .val (List Int) amounts41, .own Int none r74.2, .val (List Int) r64, .val (List (List Int)) handed_rows87, .own Int none handed_ends91, .own Int none handed_costs92, .val PD (PD.mk (LC.pd answer93)), .non, .non, .non, .non, .non, .non]) (lend_ow 13 (LC.sh answer93) Lend.refl) (t_at [.val Scr script, .val Int size1, .val Int r10.1, .val Int r10.2, .val Int r19, .val (List Int) entries22, .val (List (List Int)) r74.1, .val (List Int) amounts41, .own Int none r74.2, .val (List Int) r64, .val (List (List Int)) handed_rows87, .own Int none handed_ends91, .own Int none handed_costs92, .val PD (PD.mk (LC.pd answer93)), .non, .non, .non, .non, .non, .non] (t_val (EG.flat (e_callb C (ok__law_right G) (a_consp (EG.borrow (e_var 6)) (a_consp (e_own 8) (a_consp (EG.borrow (e_var 9)) (a_consp (EG.borrow (e_var 13)) a_nil)))))))))) (r_ret e_bool) (r_if (TWJ.pt (tw_or (CJ.t (e_nedT C (e_var 10) (e_var 6))) (tw_or (CJ.t (e_nedB C (e_own 11) (e_own 8))) (tw_or1 (CJ.t (e_nedB C (e_own 12) (EG.borrow (e_var 9)))))))) (r_ret e_bool) (r_cons (n_set 14 (n3 := fun kept99 => [.val Scr script, .val Int size1, .val Int r10.1, .val Int r10.2, .val Int r19, .val (List Int) entries22, .val (List (List Int)) r74.1, .val (List Int) amounts41, .own Int none r74.2, .val (List Int) r64, .val (List (List Int)) handed_rows87, .own Int none handed_ends91, .own Int none handed_costs92, .ow (.tup (LC.os answer93)), .val (List PD) kept99, .non, .non, .non, .non, .non]) C.nd (FG.ej (f_lendD (ρ' := [.val Scr script, .val Int size1, .val Int r10.1, .val Int r10.2, .val Int r19, .val (List Int) entries22, .val (List (List Int)) r74.1, .val (List Int) amounts41, .own Int none r74.2, .val (List Int) r64, .val (List (List Int)) handed_rows87, .own Int none handed_ends91, .own Int none handed_costs92, .val PD (PD.mk (LC.pd answer93)), .non, .non, .non, .non, .non, .non]) (lend_ow 13 (LC.sh answer93) Lend.refl) (f_call C (ok__law_plain G) (a_consp (e_var 13) a_nil))))) fun kept99 => (r_cons (n_forX 13 15 1 (ov := itOV) (xs := LC.items answer93) (ρl := fun _ : Unit => [.val Scr script, .val Int size1, .val Int r10.1, .val Int r10.2, .val Int r19, .val (List Int) entries22, .val (List (List Int)) r74.1, .val (List Int) amounts41, .own Int none r74.2, .val (List Int) r64, .val (List (List Int)) handed_rows87, .own Int none handed_ends91, .own Int none handed_costs92, .non, .val (List PD) kept99, .non, .non, .non, .non, .non]) (f := (fun (_ : Unit) (v : Int ⊕ List Int) => match v with | .inl d101 => (Res.bind (if false then (Res.bad) else (Res.ok d101)) fun r103 => (Res.ok ())) | .inr ys102 => (Res.bind (Res.bind (((Res.ok true)).quiet) fun k107 => if k107 then (Res.bind (Res.bind (Res.ok 7) fun y106 => appM ys102 y106) fun part105 => (Res.ok part105)) else (Res.ok ys102)) fun r104 => (Res.ok ())))) (s0 := ()) C rfl (LC.tail answer93) (fun x hx => i_tail (x := x) (e_var 13) (by rw [hx]; exact LC.len answer93)) (.s (.s (.s (.s (.s (.s (.s (.s (.s (.s (.s (.s (.s (.n (.s (.n (.n (.n (.n (.n .nil)))))))))))))))))))) (fun _ v => match v with | .inl d101 => b_at [.val Scr script, .val Int size1, .val Int r10.1, .val Int r10.2, .val Int r19, .val (List Int) entries22, .val (List (List Int)) r74.1, .val (List Int) amounts41, .own Int none r74.2, .val (List Int) r64, .val (List (List Int)) handed_rows87, .own Int none handed_ends91, .own Int none handed_costs92, .non, .val (List PD) kept99, .val Int d101, .non, .non, .non, .non] (b_cons (n_ifp (n := fun (r103 : Int) => [.val Scr script, .val Int size1, .val Int r10.1, .val Int r10.2, .val Int r19, .val (List Int) entries22, .val (List (List Int)) r74.1, .val (List Int) amounts41, .own Int none r74.2, .val (List Int) r64, .val (List (List Int)) handed_rows87, .own Int none handed_ends91, .own Int none handed_costs92, .non, .val (List PD) kept99, .val Int r103, .non, .non, .non, .non]) (t_val (e_isip (T := Int) (c := "list") (f := fun _ => false) (hk := fun _ => (by decide +kernel : kitB "int" "list" = some false)) (e_var 15) G.n_isinstance G.n_list)) b_dead (b_nil (.s (.s (.s (.s (.s (.s (.s (.s (.s (.s (.s (.s (.s (.n (.s (.s (.n (.n (.n (.n .nil)))))))))))))))))))))) fun r103 => (b_nil (.s (.s (.s (.s (.s (.s (.s (.s (.s (.s (.s (.s (.s (.n (.s (.n (.n (.n (.n (.n .nil)))))))))))))))))))))) | .inr ys102 => b_at [.val Scr script, .val Int size1, .val Int r10.1, .val Int r10.2, .val Int r19, .val (List Int) entries22, .val (List (List Int)) r74.1, .val (List Int) amounts41, .own Int none r74.2, .val (List Int) r64, .val (List (List Int)) handed_rows87, .own Int none handed_ends91, .own Int none handed_costs92, .non, .val (List PD) kept99, .own Int none ys102, .non, .non, .non, .non] (b_cons (n_if (n := fun (r104 : (List Int)) => [.val Scr script, .val Int size1, .val Int r10.1, .val Int r10.2, .val Int r19, .val (List Int) entries22, .val (List (List Int)) r74.1, .val (List Int) amounts41, .own Int none r74.2, .val (List Int) r64, .val (List (List Int)) handed_rows87, .own Int none handed_ends91, .own Int none handed_costs92, .non, .val (List PD) kept99, .own Int none r104, .non, .non, .non, .non]) (t_lend (ρ' := [.val Scr script, .val Int size1, .val Int r10.1, .val Int r10.2, .val Int r19, .val (List Int) entries22, .val (List (List Int)) r74.1, .val (List Int) amounts41, .own Int none r74.2, .val (List Int) r64, .val (List (List Int)) handed_rows87, .own Int none handed_ends91, .own Int none handed_costs92, .non, .val (List PD) kept99, .val (List Int) ys102, .non, .non, .non, .non]) (lend_own (T := Int) (xs := ys102) 15 Lend.refl) (t_at [.val Scr script, .val Int size1, .val Int r10.1, .val Int r10.2, .val Int r19, .val (List Int) entries22, .val (List (List Int)) r74.1, .val (List Int) amounts41, .own Int none r74.2, .val (List Int) r64, .val (List (List Int)) handed_rows87, .own Int none handed_ends91, .own Int none handed_costs92, .non, .val (List PD) kept99, .val (List Int) ys102, .non, .non, .non, .non] (t_val (e_isip (T := (List Int)) (c := "list") (f := fun _ => true) (hk := fun _ => (by decide +kernel : kitB "list" "list" = some true)) (e_var 15) G.n_isinstance G.n_list)))) (b_cons (n_app 15 (n3 := fun part105 => [.val Scr script, .val Int size1, .val Int r10.1, .val Int r10.2, .val Int r19, .val (List Int) entries22, .val (List (List Int)) r74.1, .val (List Int) amounts41, .own Int none r74.2, .val (List Int) r64, .val (List (List Int)) handed_rows87, .own Int none handed_ends91, .own Int none handed_costs92, .non, .val (List PD) kept99, .own Int none part105, .non, .non, .non, .non]) e_int) fun part105 => (b_nil (.s (.s (.s (.s (.s (.s (.s (.s (.s (.s (.s (.s (.s (.n (.s (.s (.n (.n (.n (.n .nil)))))))))))))))))))))) (b_nil (.s (.s (.s (.s (.s (.s (.s (.s (.s (.s (.s (.s (.s (.n (.s (.s (.n (.n (.n (.n .nil)))))))))))))))))))))) fun r104 => (b_nil (.s (.s (.s (.s (.s (.s (.s (.s (.s (.s (.s (.s (.s (.n (.s (.n (.n (.n (.n (.n .nil))))))))))))))))))))))) (fun _ => Nat.le_of_ble_eq_true rfl)) fun _ => (r_cons (n_app 11 (n3 := fun handed_ends108 => [.val Scr script, .val Int size1, .val Int r10.1, .val Int r10.2, .val Int r19, .val (List Int) entries22, .val (List (List Int)) r74.1, .val (List Int) amounts41, .own Int none r74.2, .val (List Int) r64, .val (List (List Int)) handed_rows87, .own Int none handed_ends108, .own Int none handed_costs92, .non, .val (List PD) kept99, .non, .non, .non, .non, .non]) e_int) fun handed_ends108 => (r_cons (n_app 12 (n3 := fun handed_costs110 => [.val Scr script, .val Int size1, .val Int r10.1, .val Int r10.2, .val Int r19, .val (List Int) entries22, .val (List (List Int)) r74.1, .val (List Int) amounts41, .own Int none r74.2, .val (List Int) r64, .val (List (List Int)) handed_rows87, .own Int none handed_ends108, .own Int none handed_costs110, .non, .val (List PD) kept99, .non, .non, .non, .non, .non]) e_int) fun handed_costs110 => (r_cons (n_setX 16 (n3 := fun again116 => [.val Scr script, .val Int size1, .val Int r10.1, .val Int r10.2, .val Int r19, .val (List Int) entries22, .val (List (List Int)) r74.1, .val (List Int) amounts41, .own Int none r74.2, .val (List Int) r64, .val (List (List Int)) handed_rows87, .own Int none handed_ends108, .own Int none handed_costs110, .non, .val (List PD) kept99, .non, .ow (.tup (LC.os again116)), .non, .non, .non]) C.nd (x_call (ov := (fun r : LC => (LC.ov r))) C (ok_least_cost G) (a_cons (FG.ej (f_lc (ow := [(Str.ofString "row", 19)]) (ρw := [.val Scr script, .val Int size1, .val Int r10.1, .val Int r10.2, .val Int r19, .val (List Int) entries22, .val (List (List Int)) r74.1, .val (List Int) amounts41, .own Int none r74.2, .val (List Int) r64, .val (List (List Int)) handed_rows87, .own Int none handed_ends108, .own Int none handed_costs110, .non, .val (List PD) kept99, .non, .non, .non, .non, .non]) C (i_list (e_var 6)) (fun s H Cc cl fp => ⟨(g_name 19 C.blk.nd), fun _ => lc_none, fun row113 => e_at [.val Scr script, .val Int size1, .val Int r10.1, .val Int r10.2, .val Int r19, .val (List Int) entries22, .val (List (List Int)) r74.1, .val (List Int) amounts41, .own Int none r74.2, .val (List Int) r64, .val (List (List Int)) handed_rows87, .own Int none handed_ends108, .own Int none handed_costs110, .non, .val (List PD) kept99, .non, .non, .non, .non, .val (List Int) row113] (FG.ej (f_listofp (EG.lg (e_var 19)) G.n_list))⟩))) fun a115 => (a_consp (FG.ej (f_listofp (l_own 8) G.n_list)) (a_consp (FG.ej (f_listofp (EG.lg (e_var 9)) G.n_list)) a_nil))))) fun again116 => (r_ret (e_lend (ρ' := [.val Scr script, .val Int size1, .val Int r10.1, .val Int r10.2, .val Int r19, .val (List Int) entries22, .val (List (List Int)) r74.1, .val (List Int) amounts41, .own Int none r74.2, .val (List Int) r64, .val (List (List Int)) handed_rows87, .own Int none handed_ends108, .own Int none handed_costs110, .non, .val (List PD) kept99, .non, .val PD (PD.mk (LC.pd again116)), .non, .non, .non]) (lend_ow 16 (LC.sh again116) Lend.refl) (e_at [.val Scr script, .val Int size1, .val Int r10.1, .val Int r10.2, .val Int r19, .val (List Int) entries22, .val (List (List Int)) r74.1, .val (List Int) amounts41, .own Int none r74.2, .val (List Int) r64, .val (List (List Int)) handed_rows87, .own Int none handed_ends108, .own Int none handed_costs110, .non, .val (List PD) kept99, .non, .val PD (PD.mk (LC.pd again116)), .non, .non, .non] (e_and (e_isip (f := isTup) (hk := isTup_ok) (e_var 16) G.n_isinstance G.n_tuple) (e_and1 (CJ.v (e_eqvD C (e_toD' (FG.ej (f_call C (ok__law_plain G) (a_consp (e_var 16) a_nil)))) (e_toDp' (e_var 14)))))))))))))))))))))))))))))))))))
end Lw

set_option Elab.async false
set_option linter.all false
set_option maxRecDepth 100000
set_option maxHeartbeats 1000000
namespace Law
open PySem PySem.Spec L2 Py Lw
/-! ### the kernel of costs -/
open La
def tf (t : List (List Int)) (i j : Nat) : Int := at0 (at0 t (i : Int)) (j : Int)
def bf (b : List Int) (l : Nat) : Nat := (at0 b (l : Int)).toNat
structure Shp (m n : Nat) (t : List (List Int)) : Prop where
  ln : t.length = m + 1
  rw : ∀ row ∈ t, row.length = n + m + 1
def BIG : Nat := 1000
structure Bd (m n : Nat) (t : List (List Int)) (d : Int) : Prop where
  en : ∀ i, i ≤ m → ∀ j, j ≤ n + m → (tf t i j).natAbs < 2 ^ 1000
  bt : d.natAbs < 2 ^ 1000
theorem Shp.at {m n : Nat} {t : List (List Int)} (h : Shp m n t) {i : Nat} (hi : i ≤ m) : idxM t (i : Int) = .ok (at0 t (i : Int)) ∧ (at0 t (i : Int)).length = n + m + 1 :=
  ⟨idx0 (by omega) (by rw [h.ln]; omega), h.rw _ (at0_mem (by omega) (by rw [h.ln]; omega))⟩
theorem Shp.cell {m n : Nat} {t : List (List Int)} (h : Shp m n t) {i j : Nat} (hi : i ≤ m) (hj : j ≤ n + m) : idxM (at0 t (i : Int)) (j : Int) = .ok (tf t i j) := idx0 (by omega) (by rw [(h.at hi).2]; omega)
theorem idx_last {α : Type} [Inhabited α] {xs : List α} {k : Nat} (h : xs.length = k + 1) : idxM xs (-1) = .ok (at0 xs (k : Int)) := by
  unfold idxM atI ixN
  rw [if_neg (by omega), if_pos (by omega)]
  show (match xs[((-1 : Int) + (xs.length : Int)).toNat]? with | some x => Res.ok x | none => .bad) = _
  rw [show ((-1 : Int) + (xs.length : Int)).toNat = k by omega, show xs[k]? = some (at0 xs (k : Int)) by rw [List.getElem?_eq_getElem (by omega), at0_nat (by omega)]]
theorem at0_zipmap {xs ys : List Int} {f : Int × Int → Int} {j : Nat} (h1 : j < xs.length) (h2 : j < ys.length) : at0 ((xs.zip ys).map f) (j : Int) = f (at0 xs (j : Int), at0 ys (j : Int)) := by
  rw [at0_nat (by rw [List.length_map, List.length_zip]; omega), List.getElem_map, List.getElem_zip, at0_nat h1, at0_nat h2]
theorem at0_map {α β : Type} [Inhabited α] [Inhabited β] {xs : List α} {f : α → β} {j : Nat} (h1 : j < xs.length) : at0 (xs.map f) (j : Int) = f (at0 xs (j : Int)) := by
  rw [at0_nat (by rw [List.length_map]; exact h1), List.getElem_map, at0_nat h1]
theorem at0_set {α : Type} [Inhabited α] {ns : List α} {i j : Int} {v : α} (hi : 0 ≤ i) (hil : i < ns.length) (hj : 0 ≤ j) : at0 (ns.set i.toNat v) j = if j = i then v else at0 ns j := by
  unfold at0
  rw [List.getD_eq_getElem?_getD, List.getD_eq_getElem?_getD, List.getElem?_set]
  by_cases h : j = i
  · subst h
    rw [if_pos rfl, if_pos rfl, if_pos (by omega)]
    rfl
  · rw [if_neg h, if_neg (by omega)]
theorem rng_pre {n : Nat} {d r : List Int} {x : Int} (e : [] ++ rng 0 (n : Int) = d ++ x :: r) : x = (d.length : Int) ∧ d.length < n := by
  have hl := congrArg List.length e
  rw [List.nil_append, rng_len, List.length_append, List.length_cons] at hl
  have hd : d.length < (rng 0 (n : Int)).length := by rw [rng_len]; omega
  refine ⟨?_, by omega⟩
  have h1 := rng_at hd
  have h2 : ([] ++ rng 0 (n : Int))[d.length]? = (d ++ x :: r)[d.length]? := by rw [e]
  rw [List.nil_append, List.getElem?_eq_getElem hd, h1, List.getElem?_append_right (Nat.le_refl _), Nat.sub_self, List.getElem?_cons_zero] at h2
  exact (Option.some.inj h2).symm
theorem ok_ex {α : Type} {m : Res α} {P : α → Prop} (h : Ok m P) : ∃ y, m = .ok y ∧ P y := by
  cases m with
  | ok y => exact ⟨y, rfl, h⟩
  | err e => exact h.elim
  | bad => exact h.elim
theorem mul_1000 {x y : Int} (h : x.natAbs < 2 ^ 1000) (h2 : y.natAbs < 2 ^ 1000) : mulM x y = .ok (x * y) := mul_big h h2 (by omega)
theorem div_ex {d x y : Int} (hd : d ≠ 0) (hb : d.natAbs < 2 ^ 1000) (h : d * x = y) : divM y d = .ok x := by
  rw [div_ok hd hb (by omega), ← h, Int.mul_fdiv_cancel_left _ hd]
def nrow (t : List (List Int)) (r q : Nat) (d : Int) (i : Nat) : List Int :=
  if i = r then at0 t (i : Int) else if tf t i q = 0 ∧ tf t r q = d then at0 t (i : Int) else ((at0 t (i : Int)).zip (at0 t (r : Int))).map fun v => (v.1 * tf t r q - tf t i q * v.2).fdiv d
theorem clear_ok {m n : Nat} {t : List (List Int)} {d : Int} {r q : Nat} (hm : m ≤ 1000) (hn : n ≤ 1000) (hs : Shp m n t) (hb : Bd m n t d) (hd : d ≠ 0) (hr : r ≤ m) (hq : q ≤ n + m) (hex : ∀ i, i ≤ m → i ≠ r → ∀ j, j ≤ n + m → ∃ x, d * x = tf t i j * tf t r q - tf t i q * tf t r j) :
    ∃ t', m_clear_column t (r : Int) (q : Int) d = .ok (tf t r q, t') ∧ Shp m n t' ∧ (∀ j, j ≤ n + m → tf t' r j = tf t r j) ∧ ∀ i, i ≤ m → i ≠ r → ∀ j, j ≤ n + m → d * tf t' i j = tf t i j * tf t r q - tf t i q * tf t r j := by
  have hlen : ∀ i, i ≤ m → (nrow t r q d i).length = n + m + 1 := fun i hi => by
    unfold nrow
    split
    · exact (hs.at hi).2
    · split
      · exact (hs.at hi).2
      · rw [List.length_map, List.length_zip, (hs.at hi).2, (hs.at hr).2]; omega
  have key : Ok (m_clear_column t (r : Int) (q : Int) d) fun y => y.1 = tf t r q ∧ y.2.length = m + 1 ∧ ∀ i, i ≤ m → at0 y.2 (i : Int) = nrow t r q d i := by
    unfold m_clear_column
    rw [(hs.at hr).1]
    simp only [bok]
    rw [hs.cell hr hq]
    simp only [bok]
    rw [guardR_ok (inRange_of (by omega) (by rw [hs.ln]; omega))]
    simp only [bok]
    rw [hs.ln]
    refine wp (P := fun t' : List (List Int) => t'.length = m + 1 ∧ ∀ i, i ≤ m → at0 t' (i : Int) = nrow t r q d i) ?_ fun t' ht' => ⟨rfl, ht'⟩
    refine (forR_wp (I := fun p (t' : List (List Int)) => t'.length = m + 1 ∧ ∀ i, i ≤ m → at0 t' (i : Int) = if i < p.length then nrow t r q d i else at0 t (i : Int)) (done := []) ⟨hs.ln, fun i _ => by rw [if_neg (by simp)]⟩ ?_).mono ?_
    · rintro p x rest t' e ⟨h1, h2⟩
      obtain ⟨hx, hp⟩ := rng_pre e
      subst hx
      have hpm : p.length ≤ m := by omega
      have e0 := h2 p.length hpm
      rw [if_neg (Nat.lt_irrefl _)] at e0
      rw [idx0 (xs := t') (by omega) (by rw [h1]; omega), e0]
      simp only [bok]
      rw [hs.cell hpm hq]
      simp only [bok]
      have fin : ∀ i, i ≤ m → (if i < (p ++ [(p.length : Int)]).length then nrow t r q d i else at0 t (i : Int)) = if i = p.length then nrow t r q d i else if i < p.length then nrow t r q d i else at0 t (i : Int) := fun i _ => by
        rw [List.length_append]
        by_cases h : i = p.length
        · rw [if_pos h, if_pos (by subst h; simp)]
        · by_cases h' : i < p.length
          · rw [if_neg h, if_pos h', if_pos (by simp; omega)]
          · rw [if_neg h, if_neg h', if_neg (by simp; omega)]
      by_cases hc : p.length = r ∨ (tf t p.length q = 0 ∧ tf t r q = d)
      · have hcond : ((!decide ((p.length : Int) = (r : Int))) && ((!decide (tf t p.length q = 0)) || (!decide (tf t r q = d)))) = false := by
          rcases hc with h | ⟨h, h'⟩
          · rw [decide_eq_true (show (p.length : Int) = (r : Int) by omega)]; rfl
          · rw [decide_eq_true h, decide_eq_true h']; simp
        rw [hcond]
        simp only [Bool.false_eq_true, if_false, bok]
        refine ⟨h1, fun i hi => ?_⟩
        rw [fin i hi]
        by_cases h : i = p.length
        · rw [if_pos h, h, e0]
          unfold nrow
          by_cases hpr : p.length = r
          · rw [if_pos hpr]
          · rw [if_neg hpr, if_pos (hc.resolve_left hpr)]
        · rw [if_neg h]; exact h2 i hi
      · have hpr : p.length ≠ r := fun z => hc (.inl z)
        have hcond : ((!decide ((p.length : Int) = (r : Int))) && ((!decide (tf t p.length q = 0)) || (!decide (tf t r q = d)))) = true := by
          rw [decide_eq_false (show ¬ (p.length : Int) = (r : Int) by omega)]
          by_cases h : tf t p.length q = 0
          · have h' : ¬ tf t r q = d := fun z => hc (.inr ⟨h, z⟩)
            rw [decide_eq_false h']; simp
          · rw [decide_eq_false h]; simp
        rw [hcond]
        simp only [if_true]
        have hzl : ((at0 t (p.length : Int)).zip (at0 t (r : Int))).length = n + m + 1 := by rw [List.length_zip, (hs.at hpm).2, (hs.at hr).2]; omega
        rw [lcX_ok (g := fun v : Int × Int => (v.1 * tf t r q - tf t p.length q * v.2).fdiv d) (by rw [hzl, sizeLine_eq]; omega) fun v hv => by
          obtain ⟨j, hj, ej⟩ := List.getElem_of_mem hv
          have hj' : j < n + m + 1 := by rw [hzl] at hj; exact hj
          rw [List.getElem_zip] at ej
          have v1 : v.1 = tf t p.length j := by rw [← ej]; exact (at0_nat (xs := at0 t (p.length : Int)) (by rw [(hs.at hpm).2]; exact hj')).symm
          have v2 : v.2 = tf t r j := by rw [← ej]; exact (at0_nat (xs := at0 t (r : Int)) (by rw [(hs.at hr).2]; exact hj')).symm
          rw [v1, v2, mul_1000 (hb.en _ hpm _ (by omega)) (hb.en _ hr _ hq), mul_1000 (hb.en _ hpm _ hq) (hb.en _ hr _ (by omega))]
          simp only [bok]
          exact div_ok hd hb.bt (by omega)]
        simp only [bok]
        rw [setM_ok (by omega) (by rw [h1]; omega)]
        simp only [bok]
        refine ⟨by show (List.set _ _ _).length = _; rw [List.length_set]; exact h1, fun i hi => ?_⟩
        rw [fin i hi]
        show at0 (t'.set (p.length : Int).toNat _) (i : Int) = _
        rw [at0_set (by omega) (by rw [h1]; omega) (by omega)]
        by_cases h : i = p.length
        · rw [if_pos (by omega), if_pos h, h]
          unfold nrow
          rw [if_neg hpr, if_neg (fun z => hc (.inr z))]
        · rw [if_neg (by omega), if_neg h]; exact h2 i hi
    · rintro t' ⟨h1, h2⟩
      refine ⟨h1, fun i hi => ?_⟩
      have := h2 i hi
      rw [List.nil_append, rng_len, if_pos (by omega)] at this
      exact this
  obtain ⟨⟨pk, t'⟩, e, h1, h2, h3⟩ := ok_ex key
  dsimp only at h1 h2 h3
  subst h1
  have htf : ∀ i, i ≤ m → ∀ j, tf t' i j = at0 (nrow t r q d i) (j : Int) := fun i hi j => by unfold tf; rw [h3 i hi]
  refine ⟨t', e, ⟨h2, fun row hrow => ?_⟩, fun j hj => ?_, fun i hi hir j hj => ?_⟩
  · obtain ⟨i, hi, ei⟩ := List.getElem_of_mem hrow
    have := h3 i (by omega)
    rw [at0_nat hi, ei] at this
    rw [this]
    exact hlen i (by omega)
  · rw [htf r hr]
    unfold nrow
    rw [if_pos rfl]
    rfl
  · rw [htf i hi]
    unfold nrow
    rw [if_neg hir]
    by_cases hc : tf t i q = 0 ∧ tf t r q = d
    · rw [if_pos hc, hc.1, hc.2, Int.zero_mul, Int.sub_zero, Int.mul_comm]
      rfl
    · rw [if_neg hc, at0_zipmap (by rw [(hs.at hi).2]; omega) (by rw [(hs.at hr).2]; omega)]
      obtain ⟨x, hx⟩ := hex i hi hir j hj
      show d * ((tf t i j * tf t r q - tf t i q * tf t r j).fdiv d) = _
      rw [← hx, Int.mul_fdiv_cancel_left _ hd]
theorem enter_ok {m n : Nat} {t : List (List Int)} (hn : n ≤ 1000) (hs : Shp m n t) : ∃ o : Option Int, m__entering (at0 t (m : Int)) (n : Int) = .ok o ∧ match o with
    | none => ∀ j, j < n → 0 ≤ tf t m j
    | some q => ∃ qn : Nat, q = (qn : Int) ∧ qn < n ∧ tf t m qn < 0 ∧ ∀ j, j < qn → 0 ≤ tf t m j := by
  refine ok_ex (m := m__entering (at0 t (m : Int)) (n : Int)) (P := fun o => match o with
    | none => ∀ j, j < n → 0 ≤ tf t m j
    | some q => ∃ qn : Nat, q = (qn : Int) ∧ qn < n ∧ tf t m qn < 0 ∧ ∀ j, j < qn → 0 ≤ tf t m j) ?_
  unfold m__entering
  rw [guardR_ok (inRange_of (by omega) (by omega))]
  simp only [bok]
  have key : ∀ (L done : List Int), done ++ L = rng 0 (n : Int) → (∀ j, j < done.length → 0 ≤ tf t m j) → Ok (thenR (forC (fun (_ : Unit) (column2 : Int) => (Res.bind (Res.bind (idxM (at0 t (m : Int)) column2) fun x3 => Res.ok (decide (x3 < 0))) fun k5 => if k5 then liftC (Res.ok (Ctl.rt (some column2))) else (Res.ok (Ctl.nx ())))) L () : Res (Ctl Unit Empty (Option Int))) fun _ => Res.ok (none : Option Int)) fun o => match o with
    | none => ∀ j, j < n → 0 ≤ tf t m j
    | some q => ∃ qn : Nat, q = (qn : Int) ∧ qn < n ∧ tf t m qn < 0 ∧ ∀ j, j < qn → 0 ≤ tf t m j := by
    intro L
    induction L with
    | nil =>
      intro done e h
      rw [List.append_nil] at e
      show ∀ j, j < n → 0 ≤ tf t m j
      intro j hj
      exact h j (by rw [e, rng_len]; exact hj)
    | cons x L ih =>
      intro done e h
      obtain ⟨hx, hp⟩ := rng_pre (d := done) (r := L) (x := x) (by rw [List.nil_append]; exact e.symm)
      subst hx
      show Post (thenR ((Res.bind _ _).bind _) _) _ _
      rw [hs.cell (Nat.le_refl m) (by omega)]
      simp only [bok]
      by_cases hc : tf t m done.length < 0
      · rw [if_pos (decide_eq_true hc)]
        exact ⟨done.length, rfl, hp, hc, h⟩
      · rw [if_neg (by simpa using hc)]
        show Post (thenR (forC _ L ()) _) _ _
        refine ih (done ++ [(done.length : Int)]) (by rw [← e]; simp) fun j hj => ?_
        rw [List.length_append] at hj
        by_cases hjd : j = done.length
        · rw [hjd]; omega
        · exact h j (by simp at hj; omega)
  exact key _ [] rfl fun j hj => absurd hj (by simp)
theorem enum_pre {α : Type} [Inhabited α] {xs : List α} {d r : List (Int × α)} {x : Int × α} (e : [] ++ enumL xs = d ++ x :: r) : x = ((d.length : Int), at0 xs (d.length : Int)) ∧ d.length < xs.length := by
  have hl := congrArg List.length e
  rw [List.nil_append, enumL_length, List.length_append, List.length_cons] at hl
  have h2 : (enumL xs)[d.length]? = some x := by
    have : ([] ++ enumL xs)[d.length]? = (d ++ x :: r)[d.length]? := by rw [e]
    rw [List.nil_append, List.getElem?_append_right (Nat.le_refl _), Nat.sub_self, List.getElem?_cons_zero] at this
    exact this
  obtain ⟨h3, h4⟩ := enumL_get h2
  have hd : d.length < xs.length := by omega
  rw [List.getElem?_eq_getElem hd] at h4
  exact ⟨Prod.ext h3 (by rw [at0_nat hd]; exact (Option.some.inj h4).symm), hd⟩
theorem forC_ctwp {S T B' R : Type} {f : S → T → Res (Ctl S S R)} {I : List T → S → Prop} {xs : List T} {s : S} {done : List T} (h : I done s) (k : ∀ d x r s, done ++ xs = d ++ x :: r → I d s → Ok (f s x) fun c => ∃ s', (c = .nx s' ∨ c = .ct s') ∧ I (d ++ [x]) s') : Ok (forC f xs s : Res (Ctl S B' R)) fun c => ∃ s', c = .nx s' ∧ I (done ++ xs) s' := by
  induction xs generalizing s done with
  | nil => rw [List.append_nil]; exact ⟨s, rfl, h⟩
  | cons x r ih =>
    show Post ((f s x).bind _) _ _
    refine wp (k done x r s rfl h) fun c hc => ?_
    obtain ⟨s', hc, h'⟩ := hc
    have z := ih (done := done ++ [x]) h' fun d y q s e => k d y q s (by rw [← e]; simp)
    rw [List.append_assoc] at z
    rcases hc with rfl | rfl
    · exact z
    · exact z
structure Lv (m n : Nat) (t : List (List Int)) (bs : List Int) (q p b : Nat) : Prop where
  bp : b < p
  ps : 0 < tf t b q
  rt : ∀ i, i < p → 0 < tf t i q → tf t b (n + m) * tf t i q ≤ tf t i (n + m) * tf t b q
  ti : ∀ i, i < p → 0 < tf t i q → tf t b (n + m) * tf t i q = tf t i (n + m) * tf t b q → at0 bs (b : Int) ≤ at0 bs (i : Int)
def LvO (m n : Nat) (t : List (List Int)) (bs : List Int) (q p : Nat) (o : Option Int) : Prop := match o with
  | none => ∀ i, i < p → tf t i q ≤ 0
  | some b => ∃ bn : Nat, b = (bn : Int) ∧ Lv m n t bs q p bn
theorem leave_ok {m n : Nat} {t : List (List Int)} {bs : List Int} {q : Nat} (hm : m ≤ 1000) (hn : n ≤ 1000) (hs : Shp m n t) {d : Int} (hb : Bd m n t d) (hl : bs.length = m) (hq : q ≤ n + m) : ∃ o : Option Int, m__leaving t bs (q : Int) = .ok o ∧ LvO m n t bs q m o := by
  refine ok_ex (m := m__leaving t bs (q : Int)) (P := fun o => LvO m n t bs q m o) ?_
  unfold m__leaving
  simp only [bok]
  refine thenR_wp (P := fun o => LvO m n t bs q m o) ?_ fun o ho => ho
  have hl2 : ([] ++ enumL bs).length = m := by rw [List.nil_append, enumL_length, hl]
  refine Post.mono (forC_ctwp (I := fun p o => LvO m n t bs q p.length o) (done := []) (show LvO m n t bs q 0 none from fun i hi => by omega) ?_) fun c hc => by
    obtain ⟨s', e, h⟩ := hc
    rw [hl2] at h
    exact ⟨s', e, h⟩
  intro p x rest o e h
  obtain ⟨hx, hp⟩ := enum_pre e
  subst hx
  have hpm : p.length ≤ m := by omega
  have elen : (p ++ [((p.length : Int), at0 bs (p.length : Int))]).length = p.length + 1 := by simp
  dsimp only
  rw [(hs.at hpm).1]
  simp only [bok]
  rw [hs.cell hpm hq]
  simp only [bok]
  by_cases h0 : tf t p.length q ≤ 0
  · rw [if_pos (decide_eq_true h0)]
    refine ⟨o, .inr rfl, ?_⟩
    rw [elen]
    cases o with
    | none =>
      intro i hi
      by_cases hip : i = p.length
      · rw [hip]; exact h0
      · exact h i (by omega)
    | some b =>
      obtain ⟨bn, e1, h1⟩ := h
      exact ⟨bn, e1, ⟨Nat.lt_succ_of_lt h1.bp, h1.ps, fun i hi hi2 => h1.rt i (by by_cases hip : i = p.length; · rw [hip] at hi2; omega
                                                                                  · omega) hi2, fun i hi hi2 => h1.ti i (by by_cases hip : i = p.length; · rw [hip] at hi2; omega
                                                                                                                            · omega) hi2⟩⟩
  · rw [if_neg (by simpa using h0)]
    cases o with
    | none =>
      refine ⟨some (p.length : Int), .inr rfl, ?_⟩
      rw [elen]
      refine ⟨p.length, rfl, ⟨by omega, by omega, fun i hi hi2 => ?_, fun i hi hi2 _ => ?_⟩⟩
      · by_cases hip : i = p.length
        · rw [hip]; exact Int.le_refl _
        · have := h i (by omega); omega
      · by_cases hip : i = p.length
        · rw [hip]; exact Int.le_refl _
        · have := h i (by omega); omega
    | some b =>
      obtain ⟨bn, e1, h1⟩ := h
      subst e1
      have hbm : bn ≤ m := by have := h1.bp; omega
      have hbm2 : bn < bs.length := by have := h1.bp; omega
      have lst : ∀ i, i ≤ m → idxM (at0 t (i : Int)) (-1) = .ok (tf t i (n + m)) := fun i hi => idx_last (by rw [(hs.at hi).2])
      simp only [Option.isNone_some, Bool.false_eq_true, if_false]
      rw [lst _ hpm]
      simp only [bok]
      rw [show getO (some (bn : Int)) = .ok (bn : Int) from rfl]
      simp only [bok]
      rw [(hs.at hbm).1]
      simp only [bok]
      rw [hs.cell hbm hq, lst _ hbm]
      simp only [bok]
      rw [mul_1000 (hb.en _ hpm _ (by omega)) (hb.en _ hbm _ hq), mul_1000 (hb.en _ hbm _ (by omega)) (hb.en _ hpm _ hq), idx0 (xs := bs) (by omega) (by omega)]
      simp only [bok, orM_ok, andM_ok]
      have hpos : 0 < tf t p.length q := by omega
      by_cases hg : tf t p.length (n + m) * tf t bn q - tf t bn (n + m) * tf t p.length q < 0 ∨ (tf t p.length (n + m) * tf t bn q - tf t bn (n + m) * tf t p.length q = 0 ∧ at0 bs (p.length : Int) < at0 bs (bn : Int))
      · have hcond : (decide (tf t p.length (n + m) * tf t bn q - tf t bn (n + m) * tf t p.length q < 0) || (decide (tf t p.length (n + m) * tf t bn q - tf t bn (n + m) * tf t p.length q = 0) && decide (at0 bs (p.length : Int) < at0 bs (bn : Int)))) = true := by
          rcases hg with h | ⟨h, h'⟩
          · rw [decide_eq_true h]; rfl
          · rw [decide_eq_true h, decide_eq_true h']; simp
        rw [hcond]
        simp only [if_true]
        refine ⟨some (p.length : Int), .inl rfl, ?_⟩
        rw [elen]
        have hle : tf t p.length (n + m) * tf t bn q ≤ tf t bn (n + m) * tf t p.length q := by rcases hg with h | ⟨h, _⟩ <;> omega
        refine ⟨p.length, rfl, ⟨by omega, hpos, fun i hi hi2 => ?_, fun i hi hi2 he => ?_⟩⟩
        · by_cases hip : i = p.length
          · rw [hip]; exact Int.le_refl _
          · exact frac_le h1.ps hi2 hpos hle (h1.rt i (by omega) hi2)
        · by_cases hip : i = p.length
          · rw [hip]; exact Int.le_refl _
          · have hr := h1.rt i (by omega) hi2
            rcases hg with hg | ⟨hg, hg2⟩
            · have := frac_lt h1.ps hi2 hpos hle hr (.inl (by omega))
              omega
            · by_cases hst : tf t bn (n + m) * tf t i q < tf t i (n + m) * tf t bn q
              · have := frac_lt h1.ps hi2 hpos hle hr (.inr hst)
                omega
              · have := h1.ti i (by omega) hi2 (by omega)
                omega
      · have hcond : (decide (tf t p.length (n + m) * tf t bn q - tf t bn (n + m) * tf t p.length q < 0) || (decide (tf t p.length (n + m) * tf t bn q - tf t bn (n + m) * tf t p.length q = 0) && decide (at0 bs (p.length : Int) < at0 bs (bn : Int)))) = false := by
          refine Bool.eq_false_iff.mpr fun z => hg ?_
          rw [Bool.or_eq_true, Bool.and_eq_true] at z
          rcases z with z | ⟨z, z'⟩
          · exact .inl (of_decide_eq_true z)
          · exact .inr ⟨of_decide_eq_true z, of_decide_eq_true z'⟩
        rw [hcond]
        simp only [Bool.false_eq_true, if_false]
        refine ⟨some (bn : Int), .inl rfl, ?_⟩
        rw [elen]
        refine ⟨bn, rfl, ⟨Nat.lt_succ_of_lt h1.bp, h1.ps, fun i hi hi2 => ?_, fun i hi hi2 he => ?_⟩⟩
        · by_cases hip : i = p.length
          · rw [hip]
            have : ¬ (tf t p.length (n + m) * tf t bn q - tf t bn (n + m) * tf t p.length q < 0) := fun z => hg (.inl z)
            omega
          · exact h1.rt i (by omega) hi2
        · by_cases hip : i = p.length
          · rw [hip] at he ⊢
            by_cases hlt : at0 bs (p.length : Int) < at0 bs (bn : Int)
            · exact absurd (.inr ⟨by omega, hlt⟩) hg
            · omega
          · exact h1.ti i (by omega) hi2 he
theorem tb_congr {m n : Nat} {T0 T T' : Nat → Nat → Int} {d : Int} {B B' : Nat → Nat} {s : Int} (h : Tb m n T0 T d B s) (e : ∀ i, i < m → ∀ j, j ≤ n + m → T' i j = T i j) (eb : ∀ l, l < m → B' l = B l) : Tb m n T0 T' d B' s where
  dne := h.dne
  t0 := h.t0
  i1 := fun i hi j hj => by
    rw [e i hi j hj, h.i1 i hi j hj]
    exact sm_congr fun k hk => by rw [e i hi (n + k) (by omega)]
  i2 := fun i hi l hl => by
    have := h.bl l hl
    rw [eb l hl, e i hi _ (by omega), h.i2 i hi l hl]
  bl := fun l hl => by rw [eb l hl]; exact h.bl l hl
  ri := fun p hp k hk => by
    rw [← h.ri p hp k hk]
    exact sm_congr fun l hl => by rw [eb l hl, e l hl (n + k) (by omega)]
  dd := by
    rw [h.dd]
    congr 1
    exact dt_congr fun l hl p _ => by unfold col; rw [eb l hl]
  ad := fun i hi k hk => by
    rw [e i hi (n + k) (by omega), h.ad i hi k hk]
    congr 1
    refine dt_congr fun l hl p _ => ?_
    by_cases hli : l = i
    · rw [hli, La.up_same, La.up_same]
    · rw [La.up_ne hli, La.up_ne hli]; unfold col; rw [eb l hl]
  ss := h.ss
structure Bo (m n : Nat) (T0 : Nat → Nat → Int) (c : Nat → Int) (b cb : Nat) : Prop where
  t : ∀ k, k < m → ∀ j, j ≤ n + m → (T0 k j).natAbs ≤ b
  c : ∀ j, j ≤ n + m → (c j).natAbs ≤ cb
  w : (m + 1) * ((cb + 1) * (fac m * b ^ m)) < 2 ^ 1000
  m1 : m ≤ 1000
  n1 : n ≤ 1000
theorem ss_abs {s : Int} (h : s = 1 ∨ s = -1) (x : Int) : (s * x).natAbs = x.natAbs := by
  rcases h with h | h <;> rw [h]
  · rw [Int.one_mul]
  · rw [Int.neg_mul, Int.one_mul, Int.natAbs_neg]
theorem tb_bd {m n : Nat} {T0 T : Nat → Nat → Int} {c : Nat → Int} {d : Int} {B : Nat → Nat} {s : Int} {b cb : Nat} (hB : Bo m n T0 c b cb) (h : Tb m n T0 T d B s) (co : ∀ j, j ≤ n + m → T m j = d * c j - sm m fun l => c (B l) * T l j) :
    d.natAbs ≤ fac m * b ^ m ∧ (∀ i, i < m → ∀ j, j ≤ n + m → (T i j).natAbs ≤ fac m * b ^ m) ∧ (∀ j, j ≤ n + m → (T m j).natAbs ≤ (m + 1) * ((cb + 1) * (fac m * b ^ m))) ∧ d.natAbs < 2 ^ 1000 ∧ ∀ i, i ≤ m → ∀ j, j ≤ n + m → (T i j).natAbs < 2 ^ 1000 := by
  have hd : d.natAbs ≤ fac m * b ^ m := by
    rw [h.dd, ss_abs h.ss]
    exact dt_abs fun l hl p hp => by unfold col; exact hB.t p hp _ (by have := h.bl l hl; omega)
  have ht : ∀ i, i < m → ∀ j, j ≤ n + m → (T i j).natAbs ≤ fac m * b ^ m := fun i hi j hj => by
    rw [h.cramer hi hj, ss_abs h.ss]
    refine dt_abs fun l hl p hp => ?_
    by_cases hli : l = i
    · rw [hli, La.up_same]; exact hB.t p hp j hj
    · rw [La.up_ne hli]; unfold col; exact hB.t p hp _ (by have := h.bl l hl; omega)
  have hc : ∀ j, j ≤ n + m → (T m j).natAbs ≤ (m + 1) * ((cb + 1) * (fac m * b ^ m)) := fun j hj => by
    rw [co j hj]
    have h1 : (d * c j).natAbs ≤ (fac m * b ^ m) * cb := by rw [Int.natAbs_mul]; exact Nat.mul_le_mul hd (hB.c j hj)
    have h2 := sm_abs (n := m) (f := fun l => c (B l) * T l j) (b := cb * (fac m * b ^ m)) fun l hl => by
      rw [Int.natAbs_mul]
      exact Nat.mul_le_mul (hB.c _ (by have := h.bl l hl; omega)) (ht l hl j hj)
    rw [Nat.mul_comm (fac m * b ^ m)] at h1
    have h3 : (m + 1) * ((cb + 1) * (fac m * b ^ m)) = m * (cb * (fac m * b ^ m)) + m * (fac m * b ^ m) + (cb * (fac m * b ^ m) + fac m * b ^ m) := by
      rw [Nat.add_mul, Nat.add_mul, Nat.one_mul, Nat.one_mul, Nat.mul_add]
    rw [h3]
    omega
  have hF : fac m * b ^ m ≤ (m + 1) * ((cb + 1) * (fac m * b ^ m)) := by
    have e1 : 1 * (fac m * b ^ m) ≤ (cb + 1) * (fac m * b ^ m) := Nat.mul_le_mul_right _ (by omega)
    have e2 : 1 * ((cb + 1) * (fac m * b ^ m)) ≤ (m + 1) * ((cb + 1) * (fac m * b ^ m)) := Nat.mul_le_mul_right _ (by omega)
    omega
  have hw := hB.w
  refine ⟨hd, ht, hc, Nat.lt_of_le_of_lt (Nat.le_trans hd hF) hw, fun i hi j hj => ?_⟩
  by_cases him : i = m
  · rw [him]; exact Nat.lt_of_le_of_lt (hc j hj) hw
  · exact Nat.lt_of_le_of_lt (Nat.le_trans (ht i (by omega) j hj) hF) hw
/-- a pivot on the lists; the chosen row may have been turned -/
theorem piv_ok {m n : Nat} {T0 : Nat → Nat → Int} {c : Nat → Int} {b cb : Nat} {t t1 : List (List Int)} {d : Int} {B : Nat → Nat} {s : Int} {r q : Nat} {e : Int} (hB : Bo m n T0 c b cb) (h : Tb m n T0 (tf t) d B s) (co : ∀ j, j ≤ n + m → tf t m j = d * c j - sm m fun l => c (B l) * tf t l j)
    (hs : Shp m n t1) (hr : r < m) (hq : q < n + m) (hne : tf t r q ≠ 0) (he : e = 1 ∨ e = -1) (h1 : ∀ j, j ≤ n + m → tf t1 r j = e * tf t r j) (h2 : ∀ i, i ≤ m → i ≠ r → ∀ j, j ≤ n + m → tf t1 i j = tf t i j) :
    ∃ t', m_clear_column t1 (r : Int) (q : Int) d = .ok (e * tf t r q, t') ∧ Shp m n t' ∧ Tb m n T0 (tf t') (e * tf t r q) (fun l => if l = r then q else B l) (e * s) ∧ (∀ j, j ≤ n + m → tf t' r j = e * tf t r j) ∧
      (∀ i, i ≤ m → i ≠ r → ∀ j, j ≤ n + m → d * tf t' i j = e * (tf t i j * tf t r q - tf t i q * tf t r j)) ∧ ∀ j, j ≤ n + m → tf t' m j = e * tf t r q * c j - sm m fun l => c (if l = r then q else B l) * tf t' l j := by
  obtain ⟨T', tb', hrow, hoth⟩ := h.pivot hr hq hne he
  obtain ⟨bd1, bd2, bd3, bd4, bd5⟩ := tb_bd hB h co
  have hbd : Bd m n t1 d := ⟨fun i hi j hj => by
    by_cases hir : i = r
    · rw [hir, h1 j hj, ss_abs he]; exact bd5 r (by omega) j hj
    · rw [h2 i hi hir j hj]; exact bd5 i hi j hj, bd4⟩
  have hcost := fun j (hj : j ≤ n + m) => h.cost (c := c) (R := tf t m) hr hq hrow hoth co hj
  have form : ∀ i, i ≤ m → i ≠ r → ∀ j, j ≤ n + m → tf t1 i j * tf t1 r q - tf t1 i q * tf t1 r j = e * (tf t i j * tf t r q - tf t i q * tf t r j) := fun i hi hir j hj => by
    rw [h2 i hi hir j hj, h2 i hi hir q (by omega), h1 q (by omega), h1 j hj, mul3, mul3 (tf t i q), ← Int.mul_sub]
  obtain ⟨t', ec, hs', hrow', hoth'⟩ := clear_ok (d := d) (r := r) (q := q) hB.m1 hB.n1 hs hbd h.dne (by omega) (by omega) fun i hi hir j hj => by
    rw [form i hi hir j hj]
    by_cases him : i = m
    · rw [him]; exact ⟨_, hcost j hj⟩
    · exact ⟨_, hoth i (by omega) hir j hj⟩
  rw [h1 q (by omega)] at ec
  have eT : ∀ i, i < m → ∀ j, j ≤ n + m → tf t' i j = T' i j := fun i hi j hj => by
    by_cases hir : i = r
    · rw [hir, hrow' j hj, h1 j hj, hrow j hj]
    · exact cancel h.dne (by rw [hoth' i (by omega) hir j hj, form i (by omega) hir j hj, hoth i hi hir j hj])
  refine ⟨t', ec, hs', tb_congr tb' eT fun _ _ => rfl, fun j hj => by rw [hrow' j hj, h1 j hj], fun i hi hir j hj => by rw [hoth' i hi hir j hj, form i hi hir j hj], fun j hj => ?_⟩
  refine cancel h.dne ?_
  rw [hoth' m (Nat.le_refl m) (by omega) j hj, form m (Nat.le_refl m) (by omega) j hj, ← hcost j hj]
  congr 2
  exact sm_congr fun l hl => by rw [eT l hl j hj]
structure LpS (m n : Nat) (T0 : Nat → Nat → Int) (c : Nat → Int) (t : List (List Int)) (bs : List Int) (d : Int) : Prop where
  sh : Shp m n t
  bl : bs.length = m
  bn : ∀ l, l < m → 0 ≤ at0 bs (l : Int)
  st : Sta m n T0 c (tf t) d (bf bs)
theorem bf_set {bs : List Int} {r q l : Nat} (hr : r < bs.length) : bf (bs.set r (q : Int)) l = if l = r then q else bf bs l := by
  unfold bf
  have := at0_set (ns := bs) (i := (r : Int)) (j := (l : Int)) (v := (q : Int)) (by omega) (by omega) (by omega)
  rw [Int.toNat_natCast] at this
  rw [this]
  by_cases h : l = r
  · rw [if_pos (by omega), if_pos h]; rfl
  · rw [if_neg (by omega), if_neg h]
theorem step_ok {m n : Nat} {T0 : Nat → Nat → Int} {c : Nat → Int} {b cb : Nat} {t : List (List Int)} {bs : List Int} {d : Int} {q r : Nat} (hB : Bo m n T0 c b cb) (h : LpS m n T0 c t bs d) (hq : q < n) (neg : tf t m q < 0) (lst : ∀ j, j < q → 0 ≤ tf t m j) (lv : Lv m n t bs q m r) :
    ∃ t', m_clear_column t (r : Int) (q : Int) d = .ok (tf t r q, t') ∧ LpS m n T0 c t' (bs.set r (q : Int)) (tf t r q) ∧ Stp m n (tf t) d (bf bs) (tf t') (tf t r q) (bf (bs.set r (q : Int))) r q := by
  have hr := lv.bp
  obtain ⟨s, tb⟩ := h.st.tb
  have hpos := lv.ps
  obtain ⟨t', e1, e2, e3, e4, e5, e6⟩ := piv_ok (e := 1) hB tb h.st.co h.sh hr (show q < n + m by omega) (by omega) (.inl rfl) (fun j hj => by rw [Int.one_mul]) fun i hi hir j hj => rfl
  rw [Int.one_mul] at e1 e3
  have hbf : ∀ l, l < m → bf (bs.set r (q : Int)) l = if l = r then q else bf bs l := fun l hl => bf_set (by rw [h.bl]; exact hr)
  have row : ∀ j, j ≤ n + m → tf t' r j = tf t r j := fun j hj => by rw [e4 j hj, Int.one_mul]
  have oth : ∀ i, i ≤ m → i ≠ r → ∀ j, j ≤ n + m → d * tf t' i j = tf t i j * tf t r q - tf t i q * tf t r j := fun i hi hir j hj => by rw [e5 i hi hir j hj, Int.one_mul]
  refine ⟨t', e1, ⟨e2, by rw [List.length_set]; exact h.bl, fun l hl => ?_, ⟨⟨_, tb_congr e3 (fun _ _ _ _ => rfl) hbf⟩, hpos, fun j hj => ?_, fun i hi => ?_⟩⟩, ⟨hr, hq, neg, lst, hpos, lv.rt, fun i hi hi2 he => ?_, rfl, row, oth, hbf⟩⟩
  · have := at0_set (ns := bs) (i := (r : Int)) (j := (l : Int)) (v := (q : Int)) (by omega) (by rw [h.bl]; omega) (by omega)
    rw [Int.toNat_natCast] at this
    rw [this]
    split
    · omega
    · exact h.bn l hl
  · have := e6 j hj
    rw [Int.one_mul] at this
    rw [this]
    congr 1
    exact sm_congr fun l hl => by rw [hbf l hl]
  · by_cases hir : i = r
    · rw [hir, row _ (by omega)]; exact h.st.xs r hr
    · have e := oth i (by omega) hir (n + m) (by omega)
      have x1 := h.st.xs i hi
      have x2 := h.st.xs r hr
      have hge : 0 ≤ d * tf t' i (n + m) := by
        rw [e]
        by_cases hp : 0 < tf t i q
        · have := lv.rt i hi hp
          rw [Int.mul_comm (tf t i q)]
          omega
        · have a1 := Int.mul_nonneg x1 (Int.le_of_lt hpos)
          have a2 := Int.mul_nonneg (show 0 ≤ - tf t i q by omega) x2
          rw [Int.neg_mul] at a2
          omega
      have hd := h.st.dp
      by_cases hc : 0 ≤ tf t' i (n + m)
      · exact hc
      · have := Int.mul_neg_of_pos_of_neg hd (show tf t' i (n + m) < 0 by omega)
        omega
  · have := lv.ti i hi hi2 he
    unfold bf
    have := h.bn r hr
    omega
/-! ### a loop that ends because its states cannot go on for ever -/
theorem whileC_ends {S R : Type} {f : S → Res (Ctl S S R)} {I : S → Prop} {Rl : S → S → Prop} {Q : R → Prop} {N : Nat} (s0 : S) (h0 : I s0)
    (hstep : ∀ s, I s → (∃ v, f s = .ok (.rt v) ∧ Q v) ∨ ∃ s', f s = .ok (.nx s') ∧ I s' ∧ Rl s s') (hno : ∀ Sq : Nat → S, Sq 0 = s0 → (∀ k, k ≤ N → I (Sq k)) → (∀ k, k < N → Rl (Sq k) (Sq (k + 1))) → False) :
    ∀ (fu i : Nat) (Sq : Nat → S), Sq 0 = s0 → (∀ k, k ≤ i → I (Sq k)) → (∀ k, k < i → Rl (Sq k) (Sq (k + 1))) → N < i + fu → ∃ v, (whileC (fun _ => Res.ok true) f fu (Sq i) : Res (Ctl S Empty R)) = .ok (.rt v) ∧ Q v := by
  intro fu
  induction fu with
  | zero => intro i Sq e hI hR hN; exact (hno Sq e (fun k hk => hI k (by omega)) fun k hk => hR k (by omega)).elim
  | succ fu ih =>
    intro i Sq e hI hR hN
    rcases hstep (Sq i) (hI i (Nat.le_refl i)) with ⟨v, hv, hq⟩ | ⟨s', hs, hi, hr⟩
    · refine ⟨v, ?_, hq⟩
      unfold whileC
      simp only [bok, if_true]
      rw [hv]
      simp only [bok]
    · have := ih (i + 1) (fun k => if k ≤ i then Sq k else s') (by rw [if_pos (Nat.zero_le i)]; exact e) (fun k hk => by
        by_cases h : k ≤ i
        · rw [if_pos h]; exact hI k h
        · rw [if_neg h]; exact hi) (fun k hk => by
        by_cases h : k < i
        · rw [if_pos (by omega), if_pos (by omega)]; exact hR k h
        · rw [if_pos (by omega), if_neg (by omega), show k = i by omega]; exact hr) (by omega)
      rw [if_neg (by omega)] at this
      obtain ⟨v, hv, hq⟩ := this
      refine ⟨v, ?_, hq⟩
      unfold whileC
      simp only [bok, if_true]
      rw [hs]
      simp only [bok]
      exact hv
theorem whileR_ends {S R : Type} {f : S → Res (Ctl S S R)} {I : S → Prop} {Rl : S → S → Prop} {Q : R → Prop} {N fu : Nat} {s0 : S} {k : S → Res R} (h0 : I s0)
    (hno : ∀ Sq : Nat → S, Sq 0 = s0 → (∀ k, k ≤ N → I (Sq k)) → (∀ k, k < N → Rl (Sq k) (Sq (k + 1))) → False) (hN : N < fu)
    (hstep : ∀ s, I s → (∃ v, f s = .ok (.rt v) ∧ Q v) ∨ ∃ s', f s = .ok (.nx s') ∧ I s' ∧ Rl s s') : ∃ v, thenR (whileC (fun _ => Res.ok true) f fu s0) k = .ok v ∧ Q v := by
  obtain ⟨v, hv, hq⟩ := whileC_ends s0 h0 hstep hno fu 0 (fun _ => s0) rfl (fun k _ => h0) (fun k hk => by omega) (by omega)
  exact ⟨v, by rw [hv]; rfl, hq⟩
/-- a row of an artificial basic column is 0 on the real columns and at its end -/
def Zz (m n : Nat) (t : List (List Int)) (bs : List Int) : Prop := ∀ l, l < m → n ≤ bf bs l → (∀ j, j < n → tf t l j = 0) ∧ tf t l (n + m) = 0
theorem zz_step {m n : Nat} {T0 : Nat → Nat → Int} {c : Nat → Int} {t t' : List (List Int)} {bs bs' : List Int} {d d' : Int} {r q : Nat} (h : LpS m n T0 c t bs d) (st : Stp m n (tf t) d (bf bs) (tf t') d' (bf bs') r q) (z : Zz m n t bs) : Zz m n t' bs' := by
  obtain ⟨hr, hq, neg, lst, hpos, rt, ti, ed, row, oth, hbf⟩ := st
  intro l hl hn
  rw [hbf l hl] at hn
  by_cases hlr : l = r
  · rw [if_pos hlr] at hn; omega
  · rw [if_neg hlr] at hn
    obtain ⟨z1, z2⟩ := z l hl hn
    have dp := h.st.dp
    have key : ∀ j, j ≤ n + m → tf t l j = 0 → tf t' l j = 0 := fun j hj e => by
      have := oth l (by omega) hlr j hj
      rw [e, z1 q hq, Int.zero_mul, Int.zero_mul, Int.sub_self] at this
      rcases Int.mul_eq_zero.mp this with w | w
      · omega
      · exact w
    exact ⟨fun j hj => key j (by omega) (z1 j hj), key _ (Nat.le_refl _) z2⟩
def Imp (m n : Nat) (T0 : Nat → Nat → Int) (c : Nat → Int) (z : Prop) (y : (Int × Option Int) × List (List Int) × List Int) : Prop := (LpS m n T0 c y.2.1 y.2.2 y.1.1 ∧ (z → Zz m n y.2.1 y.2.2)) ∧ match y.1.2 with
  | none => ∀ j, j < n → 0 ≤ tf y.2.1 m j
  | some q => ∃ qn : Nat, q = (qn : Int) ∧ qn < n ∧ tf y.2.1 m qn < 0 ∧ ∀ i, i < m → tf y.2.1 i qn ≤ 0
theorem improve_ok {m n : Nat} {T0 : Nat → Nat → Int} {c : Nat → Int} {b cb : Nat} {t : List (List Int)} {bs : List Int} {d : Int} (hB : Bo m n T0 c b cb) (hF : (n + m) ^ m < 1000000000000000000000000000000000000000000000000000000000000000000000000000000000000000000000000000000000000000000000) (h : LpS m n T0 c t bs d) {z : Prop} (hz : z → Zz m n t bs) :
    ∃ y, m__improve t bs d (n : Int) = .ok y ∧ Imp m n T0 c z y := by
  unfold m__improve
  refine whileR_ends (I := fun s : List (List Int) × List Int × Int => LpS m n T0 c s.1 s.2.1 s.2.2 ∧ (z → Zz m n s.1 s.2.1)) (Rl := fun s s' => ∃ r q, Stp m n (tf s.1) s.2.2 (bf s.2.1) (tf s'.1) s'.2.2 (bf s'.2.1) r q) (Q := Imp m n T0 c z) (N := (n + m) ^ m) ⟨h, hz⟩ (fun Sq e hI hR => ?_) hF ?_
  · refine bland_ends (m := m) (n := n) (T0 := T0) (c := c) (T := fun k => tf (Sq k).1) (d := fun k => (Sq k).2.2) (B := fun k => bf (Sq k).2.1)
      (r := fun k => if hk : k < (n + m) ^ m then (hR k hk).choose else 0) (q := fun k => if hk : k < (n + m) ^ m then (hR k hk).choose_spec.choose else 0) (fun k hk => (hI k hk).1.st) fun k hk => ?_
    show Stp _ _ _ _ _ _ _ _ (if hk : k < (n + m) ^ m then (hR k hk).choose else 0) (if hk : k < (n + m) ^ m then (hR k hk).choose_spec.choose else 0)
    rw [dif_pos hk, dif_pos hk]
    exact (hR k hk).choose_spec.choose_spec
  · clear h hz
    rintro ⟨t, bs, d⟩ ⟨hs, hz⟩
    dsimp only at hs hz ⊢
    rw [idx_last (k := m) hs.sh.ln]
    simp only [bok]
    obtain ⟨o, eo, ho⟩ := enter_ok hB.n1 hs.sh
    rw [eo]
    simp only [bok]
    cases o with
    | none =>
      refine .inl ⟨_, rfl, ⟨hs, hz⟩, ho⟩
    | some qz =>
      obtain ⟨q, rfl, hq, neg, lst⟩ := ho
      obtain ⟨s, tb⟩ := hs.st.tb
      obtain ⟨_, _, _, bd4, bd5⟩ := tb_bd hB tb hs.st.co
      have hbd : Bd m n t d := ⟨bd5, bd4⟩
      obtain ⟨o2, eo2, ho2⟩ := leave_ok (bs := bs) hB.m1 hB.n1 hs.sh hbd hs.bl (show q ≤ n + m by omega)
      simp only [Option.isNone_some, Bool.false_eq_true, if_false]
      rw [show getO (some (q : Int)) = .ok (q : Int) from rfl]
      simp only [bok]
      rw [eo2, show (Res.ok o2).quiet = .ok o2 from rfl]
      simp only [bok]
      cases o2 with
      | none =>
        refine .inl ⟨_, rfl, ⟨hs, hz⟩, q, rfl, hq, neg, ho2⟩
      | some rz =>
        obtain ⟨r, rfl, lv⟩ := ho2
        obtain ⟨t', ec, hs', hstp⟩ := step_ok hB hs hq neg lst lv
        simp only [Option.isNone_some, Bool.false_eq_true, if_false]
        rw [show getO (some (r : Int)) = .ok (r : Int) from rfl]
        simp only [bok]
        rw [ec, show (Res.ok (tf t r q, t')).quiet = .ok (tf t r q, t') from rfl]
        simp only [bok]
        rw [setM_ok (by omega) (by rw [hs.bl]; have := lv.bp; omega), Int.toNat_natCast]
        simp only [bok]
        exact .inr ⟨_, rfl, ⟨hs', fun w => zz_step hs hstp (hz w)⟩, r, q, hstp⟩
end Law

set_option Elab.async false
set_option linter.all false
set_option maxRecDepth 100000
set_option maxHeartbeats 1000000
namespace Law
open PySem PySem.Spec L2 Py Lw La
theorem put_ok {m n : Nat} {bs : List Int} {w : Nat → Int} {f : List Int → Int × Int → Res (List Int)} {r0 : List Int} (hl : bs.length = m) (hn : ∀ l, l < m → 0 ≤ at0 bs (l : Int)) (inj : ∀ l, l < m → ∀ l', l' < m → bf bs l = bf bs l' → l = l') (h0 : r0.length = n)
    (hf : ∀ r, r.length = n → ∀ l, l < m → f r ((l : Int), at0 bs (l : Int)) = if at0 bs (l : Int) < (n : Int) then setM r (at0 bs (l : Int)) (w l) else .ok r) :
    ∃ r, forR f (enumL bs) r0 = .ok r ∧ r.length = n ∧ ∀ j, j < n → (∀ l, l < m → bf bs l = j → at0 r (j : Int) = w l) ∧ ((∀ l, l < m → bf bs l ≠ j) → at0 r (j : Int) = at0 r0 (j : Int)) := by
  have key : Ok (forR f (enumL bs) r0) fun r => r.length = n ∧ ∀ j, j < n → (∀ l, l < m → bf bs l = j → at0 r (j : Int) = w l) ∧ ((∀ l, l < m → bf bs l ≠ j) → at0 r (j : Int) = at0 r0 (j : Int)) := by
    refine Post.mono (forR_wp (I := fun d (r : List Int) => r.length = n ∧ ∀ j, j < n → (∀ l, l < d.length → bf bs l = j → at0 r (j : Int) = w l) ∧ ((∀ l, l < d.length → bf bs l ≠ j) → at0 r (j : Int) = at0 r0 (j : Int))) (done := []) ⟨h0, fun j hj => ⟨fun l hl => absurd hl (Nat.not_lt_zero _), fun _ => rfl⟩⟩ fun d x r s e hI => ?_) fun r hr => ?_
    · obtain ⟨rfl, hd⟩ := enum_pre e
      rw [hl] at hd
      obtain ⟨hs, hI⟩ := hI
      rw [hf s hs _ hd]
      have hb := hn _ hd
      have hbf : (bf bs d.length : Int) = at0 bs (d.length : Int) := by unfold bf; omega
      have hdl : (d ++ [((d.length : Int), at0 bs (d.length : Int))]).length = d.length + 1 := by simp
      by_cases hc : at0 bs (d.length : Int) < (n : Int)
      · rw [if_pos hc, setM_ok hb (by omega)]
        refine ⟨by rw [List.length_set]; exact hs, fun j hj => ?_⟩
        have ea := at0_set (ns := s) (i := at0 bs (d.length : Int)) (j := (j : Int)) (v := w d.length) hb (by omega) (by omega)
        rw [ea, hdl]
        by_cases hjj : (j : Int) = at0 bs (d.length : Int)
        · rw [if_pos hjj]
          refine ⟨fun l hl2 e2 => ?_, fun z => absurd (show bf bs d.length = j by omega) (z _ (by omega))⟩
          have : l = d.length := inj l (by omega) _ hd (by omega)
          rw [this]
        · rw [if_neg hjj]
          refine ⟨fun l hl2 e2 => ?_, fun z => (hI j hj).2 fun l hl2 => z l (by omega)⟩
          have : l ≠ d.length := fun z => by rw [z] at e2; omega
          exact (hI j hj).1 l (by omega) e2
      · rw [if_neg hc]
        refine ⟨hs, fun j hj => ?_⟩
        rw [hdl]
        refine ⟨fun l hl2 e2 => ?_, fun z => (hI j hj).2 fun l hl2 => z l (by omega)⟩
        have : l ≠ d.length := fun z => by rw [z] at e2; omega
        exact (hI j hj).1 l (by omega) e2
    · obtain ⟨h1, h2⟩ := hr
      refine ⟨h1, fun j hj => ?_⟩
      have hlen : ([] ++ enumL bs).length = m := by
        rw [List.nil_append]; unfold enumL; simp [hl]
      rw [hlen] at h2
      exact h2 j hj
  exact ok_ex key
theorem at_one {m : Nat} {B : Nat → Nat} {w : Nat → Int} {j l : Nat} (inj : ∀ l, l < m → ∀ l', l' < m → B l = B l' → l = l') (hl : l < m) (e : B l = j) : at_ m B w j = w l := by
  unfold at_
  rw [sm_one hl fun k hk hne => if_neg fun z => hne (inj k hk l hl (by omega)), if_pos e]
theorem at_none {m : Nat} {B : Nat → Nat} {w : Nat → Int} {j : Nat} (h : ∀ l, l < m → B l ≠ j) : at_ m B w j = 0 := sm_zero fun l hl => if_neg (h l hl)
end Law

set_option Elab.async false
set_option linter.all false
set_option maxRecDepth 100000
set_option maxHeartbeats 1000000
namespace Law
open PySem PySem.Spec L2 Py Lw La
theorem rep_ok {α : Type} (x : α) {k : Nat} (h : k ≤ 100000) : repM [x] (k : Int) = .ok (List.replicate k x) := by
  unfold repM
  rw [guardR_ok]
  · congr 1
    rw [Int.toNat_natCast]
    clear h
    induction k with
    | zero => rfl
    | succ k ih => rw [List.replicate_succ, List.flatten_cons, ih, List.replicate_succ]; rfl
  · rw [Bool.and_eq_true, Bool.and_eq_true, decide_eq_true_eq, decide_eq_true_eq, decide_eq_true_eq]
    refine ⟨by omega, by omega, ?_⟩
    rw [List.length_singleton, Int.toNat_natCast, Nat.one_mul, sizeLine_eq]
    omega
theorem at0_rep {k : Nat} {j : Nat} (h : j < k) : at0 (List.replicate k (0 : Int)) (j : Int) = 0 := by
  rw [at0_nat (by rw [List.length_replicate]; exact h), List.getElem_replicate]
theorem way_ok {m n : Nat} {t : List (List Int)} {bs : List Int} {d : Int} {q : Nat} (hm : m ≤ 1000) (hn : n ≤ 1000) (hs : Shp m n t) (hl : bs.length = m) (h0 : ∀ l, l < m → 0 ≤ at0 bs (l : Int)) (inj : ∀ l, l < m → ∀ l', l' < m → bf bs l = bf bs l' → l = l') (hq : q < n) (hb : ∀ l, l < m → bf bs l ≠ q) :
    ∃ r, m__way t bs d (q : Int) (n : Int) = .ok r ∧ r.length = n ∧ ∀ j, j < n → at0 r (j : Int) = if j = q then d else at_ m (bf bs) (fun l => - tf t l q) j := by
  unfold m__way
  rw [rep_ok 0 (by omega)]
  simp only [bok]
  rw [setM_ok (by omega) (by rw [List.length_replicate]; omega)]
  simp only [bok]
  obtain ⟨r, e1, e2, e3⟩ := put_ok (w := fun l => - tf t l q) (n := n) (f := fun (r5 : List Int) v6 => ((if decide (v6.2 < (n : Int)) then ((((idxM t v6.1).bind fun x8 => idxM x8 (q : Int)).bind fun x10 => Res.ok (-x10)).bind fun a12 => setM r5 v6.2 a12).bind fun way11 => Res.ok way11 else Res.ok r5)).bind fun r7 => Res.ok r7)
    (r0 := (List.replicate n (0 : Int)).set (q : Int).toNat d) hl h0 inj (by rw [List.length_set, List.length_replicate]) (fun r hr l hlm => by
      have e1 := (hs.at (i := l) (by omega)).1
      have e2 := hs.cell (i := l) (j := q) (by omega) (by omega)
      dsimp only
      rw [e1]
      simp only [bok]
      rw [e2]
      simp only [bok]
      by_cases hc : at0 bs (l : Int) < (n : Int)
      · rw [if_pos (decide_eq_true hc), if_pos hc, setM_ok (h0 l hlm) (by omega)]
        simp only [bok]
      · rw [if_neg (by rw [decide_eq_false hc]; exact Bool.false_ne_true), if_neg hc]
        simp only [bok])
  refine ⟨r, ?_, e2, fun j hj => ?_⟩
  · have : ∀ x : Res (List Int), (x.bind fun r5 => Res.ok r5) = x := fun x => by cases x <;> rfl
    rw [this]
    exact e1
  · obtain ⟨z1, z2⟩ := e3 j hj
    have ea := at0_set (ns := List.replicate n (0 : Int)) (i := (q : Int)) (j := (j : Int)) (v := d) (by omega) (by rw [List.length_replicate]; omega) (by omega)
    by_cases hjq : j = q
    · rw [if_pos hjq, z2 fun l hl => by rw [hjq]; exact hb l hl, ea, if_pos (by omega)]
    · rw [if_neg hjq]
      by_cases hx : ∃ l, l < m ∧ bf bs l = j
      · obtain ⟨l, hl2, e⟩ := hx
        rw [z1 l hl2 e, at_one inj hl2 e]
      · have hx2 : ∀ l, l < m → bf bs l ≠ j := fun l hl2 e => hx ⟨l, hl2, e⟩
        rw [z2 hx2, ea, if_neg (by omega), at0_rep hj, at_none hx2]
end Law

set_option Elab.async false
set_option linter.all false
set_option maxRecDepth 100000
set_option maxHeartbeats 1000000
namespace Law
open PySem PySem.Spec L2 Py Lw La
/-- the real costs, 0 behind them -/
def cR (n : Nat) (costs : List Int) (j : Nat) : Int := if j < n then at0 costs (j : Int) else 0
theorem at0_app {α : Type} [Inhabited α] {xs ys : List α} {j : Nat} : at0 (xs ++ ys) (j : Int) = if j < xs.length then at0 xs (j : Int) else at0 ys ((j - xs.length : Nat) : Int) := by
  unfold at0
  simp only [Int.toNat_natCast, List.getD_eq_getElem?_getD]
  by_cases h : j < xs.length
  · rw [if_pos h, List.getElem?_append_left h]
  · rw [if_neg h, List.getElem?_append_right (by omega)]
theorem at0_rep' {k : Nat} {j : Nat} : at0 (List.replicate k (0 : Int)) (j : Int) = 0 := by
  by_cases h : j < k
  · exact at0_rep h
  · unfold at0
    rw [Int.toNat_natCast, List.getD_eq_getElem?_getD, List.getElem?_eq_none (by rw [List.length_replicate]; omega)]
    rfl
theorem natAbs_sm_le {m : Nat} {f : Nat → Int} {b : Nat} (h : ∀ k, k < m → (f k).natAbs ≤ b) : (sm m f).natAbs ≤ m * b := sm_abs h
theorem cost_row_ok {m n : Nat} {t : List (List Int)} {bs : List Int} {d : Int} {costs : List Int} (hm : m ≤ 1000) (hn : n ≤ 1000) (hs : Shp m n t) (hl : bs.length = m) (h0 : ∀ l, l < m → 0 ≤ at0 bs (l : Int)) (hB : ∀ l, l < m → bf bs l < n + m) (hc : costs.length = n) (cb : ∀ j, j < n → (at0 costs (j : Int)).natAbs < 2 ^ 1000)
    (db : d.natAbs < 2 ^ 1000) (tb : ∀ i, i < m → ∀ j, j ≤ n + m → (tf t i j).natAbs < 2 ^ 1000) :
    ∃ r, m__cost_row t bs d costs = .ok r ∧ r.length = n + m + 1 ∧ ∀ j, j ≤ n + m → at0 r (j : Int) = d * cR n costs j - sm m fun l => cR n costs (bf bs l) * tf t l j := by
  unfold m__cost_row
  have hlast := hs.at (i := m) (Nat.le_refl m)
  rw [idx_last (k := m) hs.ln]
  simp only [bok]
  rw [show (Len.len (at0 t (m : Int)) : Res Int) = .ok ((n + m + 1 : Nat) : Int) by show Res.ok _ = _; rw [hlast.2]]
  simp only [bok]
  rw [hc, show ((n + m + 1 : Nat) : Int) - (n : Int) = ((m + 1 : Nat) : Int) by omega, rep_ok 0 (by omega)]
  simp only [bok]
  rw [cat_ok (by rw [List.length_replicate, hc, sizeLine_eq]; omega)]
  simp only [bok]
  generalize hF : costs ++ List.replicate (m + 1) (0 : Int) = full
  have hfl : full.length = n + m + 1 := by rw [← hF, List.length_append, List.length_replicate, hc]; omega
  have hfa : ∀ j : Nat, at0 full (j : Int) = cR n costs j := fun j => by
    rw [← hF, at0_app, hc]
    unfold cR
    by_cases h : j < n
    · rw [if_pos h, if_pos h]
    · rw [if_neg h, if_neg h, at0_rep']
  have hcr : ∀ j : Nat, (cR n costs j).natAbs < 2 ^ 1000 := fun j => by
    unfold cR
    by_cases h : j < n
    · rw [if_pos h]; exact cb j h
    · rw [if_neg h]; exact Nat.two_pow_pos 1000
  have hfm : ∀ x ∈ full, x.natAbs < 2 ^ 1000 := fun x hx => by
    obtain ⟨i, hi, e⟩ := List.mem_iff_getElem.mp hx
    rw [← e, ← at0_nat hi, hfa]
    exact hcr i
  rw [lcX_ok (g := fun x => d * x) (by rw [hfl, sizeLine_eq]; omega) fun x hx => mul_1000 db (hfm x hx)]
  simp only [bok]
  have key : Ok (forR (fun (r12 : List Int) v13 => ((((idxM full v13.2).bind fun x14 => Res.ok (!decide (x14 = 0))).bind fun k27 => if k27 then (((((idxM t v13.1).bind fun y19 => Res.ok (r12.zip y19)).bind fun z26 => lcX (fun _ => Res.ok true) (fun v21 => ((((idxM full v13.2).bind fun x22 => mulM x22 v21.2).bind fun y25 => Res.ok (v21.1 - y25)))) z26)).quiet.bind fun row17 => Res.ok row17) else Res.ok r12)).bind fun r16 => Res.ok r16) (enumL bs) (full.map fun x => d * x)) fun r => r.length = n + m + 1 ∧ ∀ j, j ≤ n + m → at0 r (j : Int) = d * cR n costs j - sm m fun l => cR n costs (bf bs l) * tf t l j := by
    refine Post.mono (forR_wp (I := fun dn (r : List Int) => r.length = n + m + 1 ∧ ∀ j, j ≤ n + m → at0 r (j : Int) = d * cR n costs j - sm dn.length fun l => cR n costs (bf bs l) * tf t l j) (done := []) ⟨by rw [List.length_map]; exact hfl, fun j hj => ?_⟩ fun dn x r s e hI => ?_) fun r hr => ?_
    · rw [at0_map (by omega), hfa]
      show _ = _ - (0 : Int)
      omega
    · obtain ⟨rfl, hd⟩ := enum_pre e
      rw [hl] at hd
      obtain ⟨hs1, hI⟩ := hI
      have hb := h0 _ hd
      have hbf : at0 bs (dn.length : Int) = ((bf bs dn.length : Nat) : Int) := by unfold bf; omega
      have hbl := hB _ hd
      have hdl : (dn ++ [((dn.length : Int), at0 bs (dn.length : Int))]).length = dn.length + 1 := by simp
      dsimp only
      rw [hbf, idx0 (by omega) (by omega), hfa]
      simp only [bok]
      rw [hbf] at hdl
      rw [hdl]
      by_cases hz : cR n costs (bf bs dn.length) = 0
      · rw [if_neg (by rw [decide_eq_true hz]; exact Bool.false_ne_true)]
        refine ⟨hs1, fun j hj => ?_⟩
        rw [hI j hj]
        show _ = _ - (sm dn.length _ + cR n costs (bf bs dn.length) * _)
        rw [hz, Int.zero_mul, Int.add_zero]
      · have hrow := hs.at (i := dn.length) (by omega)
        rw [if_pos (by rw [decide_eq_false hz]; rfl), hrow.1]
        simp only [bok]
        rw [lcX_ok (g := fun v : Int × Int => v.1 - cR n costs (bf bs dn.length) * v.2) (by rw [List.length_zip, hs1, hrow.2, sizeLine_eq]; omega) fun v hv => by
          have hv2 : v.2.natAbs < 2 ^ 1000 := by
            obtain ⟨i, hi, e⟩ := List.mem_iff_getElem.mp (List.of_mem_zip (a := v.1) (b := v.2) hv).2
            rw [← e, ← at0_nat hi]
            exact tb _ hd i (by rw [hrow.2] at hi; omega)
          rw [mul_1000 (hcr _) hv2]
          simp only [bok]]
        refine ⟨by rw [List.length_map, List.length_zip, hs1, hrow.2]; omega, fun j hj => ?_⟩
        rw [at0_zipmap (by omega) (by rw [hrow.2]; omega), hI j hj]
        show _ - cR n costs (bf bs dn.length) * tf t dn.length j = _ - (sm dn.length _ + cR n costs (bf bs dn.length) * tf t dn.length j)
        omega
    · have hlen : ([] ++ enumL bs).length = m := by
        rw [List.nil_append, enumL_length, hl]
      rw [hlen] at hr
      exact hr
  obtain ⟨r, e1, e2⟩ := ok_ex key
  refine ⟨r, ?_, e2⟩
  have : ∀ x : Res (List Int), (x.bind fun r5 => Res.ok r5) = x := fun x => by cases x <;> rfl
  rw [this]
  exact e1
end Law

set_option Elab.async false
set_option linter.all false
set_option maxRecDepth 100000
set_option maxHeartbeats 1000000
namespace Law
open PySem PySem.Spec L2 Py Lw La
/-- driving out: what stands behind k rows -/
structure Dr (m n : Nat) (T0 : Nat → Nat → Int) (c : Nat → Int) (k : Nat) (t : List (List Int)) (bs : List Int) (d : Int) : Prop where
  lp : LpS m n T0 c t bs d
  ze : ∀ l, l < m → n ≤ bf bs l → tf t l (n + m) = 0
  zr : ∀ l, l < k → l < m → n ≤ bf bs l → ∀ j, j < n → tf t l j = 0
theorem neg_row {m n : Nat} {t : List (List Int)} {r : Nat} (hs : Shp m n t) (hr : r < m) : Shp m n (t.set r ((at0 t (r : Int)).map fun x => -x)) ∧ (∀ j, j ≤ n + m → tf (t.set r ((at0 t (r : Int)).map fun x => -x)) r j = (-1) * tf t r j) ∧ ∀ i, i ≠ r → ∀ j, tf (t.set r ((at0 t (r : Int)).map fun x => -x)) i j = tf t i j := by
  have hrow := (hs.at (i := r) (by omega)).2
  have ea : ∀ i : Nat, at0 (t.set r ((at0 t (r : Int)).map fun x => -x)) (i : Int) = if (i : Int) = (r : Int) then (at0 t (r : Int)).map fun x => -x else at0 t (i : Int) := fun i => by
    have := at0_set (ns := t) (i := (r : Int)) (j := (i : Int)) (v := (at0 t (r : Int)).map fun x => -x) (by omega) (by rw [hs.ln]; omega) (by omega)
    rw [Int.toNat_natCast] at this
    exact this
  refine ⟨⟨by rw [List.length_set]; exact hs.ln, fun row h => ?_⟩, fun j hj => ?_, fun i hi j => ?_⟩
  · rcases List.mem_or_eq_of_mem_set h with z | z
    · exact hs.rw row z
    · rw [z, List.length_map]; exact hrow
  · unfold tf
    rw [ea r, if_pos rfl, at0_map (by rw [hrow]; omega)]
    omega
  · unfold tf
    rw [ea i, if_neg (by omega)]
/-- one exchange at a row whose end is 0 -/
theorem swap_ok {m n : Nat} {T0 : Nat → Nat → Int} {c : Nat → Int} {b cb : Nat} {t t1 : List (List Int)} {bs : List Int} {d : Int} {r q : Nat} {e : Int} (hB : Bo m n T0 c b cb) (h : LpS m n T0 c t bs d) (ze : ∀ l, l < m → n ≤ bf bs l → tf t l (n + m) = 0) (zr : ∀ l, l < r → l < m → n ≤ bf bs l → ∀ j, j < n → tf t l j = 0)
    (hr : r < m) (hrn : n ≤ bf bs r) (hq : q < n) (he : e = 1 ∨ e = -1) (hpos : 0 < e * tf t r q) (hs1 : Shp m n t1) (h1 : ∀ j, j ≤ n + m → tf t1 r j = e * tf t r j) (h2 : ∀ i, i ≤ m → i ≠ r → ∀ j, j ≤ n + m → tf t1 i j = tf t i j) :
    ∃ t', m_clear_column t1 (r : Int) (q : Int) d = .ok (e * tf t r q, t') ∧ Dr m n T0 c (r + 1) t' (bs.set r (q : Int)) (e * tf t r q) := by
  obtain ⟨s, tb⟩ := h.st.tb
  have hne : tf t r q ≠ 0 := fun z => by rw [z, Int.mul_zero] at hpos; omega
  obtain ⟨t', e1, e2, e3, e4, e5, e6⟩ := piv_ok hB tb h.st.co hs1 hr (show q < n + m by omega) hne he h1 h2
  have dp := h.st.dp
  have hbf : ∀ l, l < m → bf (bs.set r (q : Int)) l = if l = r then q else bf bs l := fun l hl => bf_set (by rw [h.bl]; exact hr)
  have z0 : tf t r (n + m) = 0 := ze r hr hrn
  have can : ∀ {x : Int}, d * x = 0 → x = 0 := fun {x} w => by
    rcases Int.mul_eq_zero.mp w with w | w
    · omega
    · exact w
  refine ⟨t', e1, ⟨e2, by rw [List.length_set]; exact h.bl, fun l hl => ?_, ⟨⟨_, tb_congr e3 (fun _ _ _ _ => rfl) hbf⟩, hpos, fun j hj => ?_, fun i hi => ?_⟩⟩, fun l hl hn => ?_, fun l hl hlm hn j hj => ?_⟩
  · have := at0_set (ns := bs) (i := (r : Int)) (j := (l : Int)) (v := (q : Int)) (by omega) (by rw [h.bl]; omega) (by omega)
    rw [Int.toNat_natCast] at this
    rw [this]
    split
    · omega
    · exact h.bn l hl
  · rw [e6 j hj]
    congr 1
    exact sm_congr fun l hl => by rw [hbf l hl]
  · by_cases hir : i = r
    · rw [hir, e4 _ (Nat.le_refl _), z0, Int.mul_zero]; exact Int.le_refl _
    · have e := e5 i (by omega) hir (n + m) (Nat.le_refl _)
      rw [z0, Int.mul_zero, Int.sub_zero, mul3] at e
      have := Int.mul_nonneg (h.st.xs i hi) (Int.le_of_lt hpos)
      rw [← e] at this
      by_cases hc : 0 ≤ tf t' i (n + m)
      · exact hc
      · have := Int.mul_neg_of_pos_of_neg dp (show tf t' i (n + m) < 0 by omega)
        omega
  · rw [hbf l hl] at hn
    by_cases hlr : l = r
    · rw [if_pos hlr] at hn; omega
    · rw [if_neg hlr] at hn
      refine can ?_
      rw [e5 l (by omega) hlr (n + m) (Nat.le_refl _), ze l hl hn, z0, Int.zero_mul, Int.mul_zero, Int.sub_self, Int.mul_zero]
  · rw [hbf l hlm] at hn
    by_cases hlr : l = r
    · rw [if_pos hlr] at hn; omega
    · rw [if_neg hlr] at hn
      have zl := zr l (by omega) hlm hn
      refine can ?_
      rw [e5 l (by omega) hlr j (by omega), zl j hj, zl q hq, Int.zero_mul, Int.zero_mul, Int.sub_self, Int.mul_zero]
theorem drive_ok {m n : Nat} {T0 : Nat → Nat → Int} {c : Nat → Int} {b cb : Nat} {t : List (List Int)} {bs : List Int} {d : Int} (hB : Bo m n T0 c b cb) (h : LpS m n T0 c t bs d) (ze : ∀ l, l < m → n ≤ bf bs l → tf t l (n + m) = 0) :
    ∃ y, m__drive_out t bs d (n : Int) = .ok y ∧ LpS m n T0 c y.2.1 y.2.2 y.1 ∧ Zz m n y.2.1 y.2.2 := by
  apply ok_ex
  unfold m__drive_out
  have hm1 := hB.m1
  have hn1 := hB.n1
  rw [h.bl, guardR_ok (inRange_of (by omega) (by omega)), guardR_ok (inRange_of (by omega) (by omega))]
  simp only [bok]
  refine thenR_wp (P := fun s : List (List Int) × List Int × Int => Dr m n T0 c m s.1 s.2.1 s.2.2) (Post.mono (forC_ctwp (I := fun dn (s : List (List Int) × List Int × Int) => Dr m n T0 c dn.length s.1 s.2.1 s.2.2) (done := []) ⟨h, ze, fun l hl => absurd hl (Nat.not_lt_zero _)⟩ fun dn x rs s e hI => ?_) fun cc hc => ?_) fun s hs => ?_
  · obtain ⟨rfl, hd⟩ := rng_pre e
    obtain ⟨t, bs, d⟩ := s
    have hI : Dr m n T0 c dn.length t bs d := hI
    have hdl : (dn ++ [(dn.length : Int)]).length = dn.length + 1 := by simp
    have lp := hI.lp
    have hb := lp.bn _ hd
    have hbf : at0 bs (dn.length : Int) = ((bf bs dn.length : Nat) : Int) := by unfold bf; omega
    rw [hdl]
    have hlen : bs.length = m := lp.bl
    dsimp only
    rw [idx0 (xs := bs) (i := (dn.length : Int)) (by omega) (by rw [hlen]; omega)]
    simp only [bok]
    by_cases hc : at0 bs (dn.length : Int) < (n : Int)
    · rw [if_pos (decide_eq_true hc)]
      refine ⟨(t, bs, d), .inr rfl, lp, hI.ze, fun l hl hlm hn => ?_⟩
      by_cases hlk : l = dn.length
      · have hn : n ≤ bf bs dn.length := hlk ▸ hn
        omega
      · exact hI.zr l (by omega) hlm hn
    · rw [if_neg (by rw [decide_eq_false hc]; exact Bool.false_ne_true)]
      have hkn : n ≤ bf bs dn.length := by omega
      have hrow := (lp.sh.at (i := dn.length) (by omega)).1
      rw [lcX_id (p := fun j => !decide (tf t dn.length j.toNat = 0)) (by rw [rng_len, sizeLine_eq]; omega) fun j hj => by
        have hj2 := rng_mem hj
        have hcell := lp.sh.cell (i := dn.length) (j := j.toNat) (by omega) (by omega)
        rw [Int.toNat_of_nonneg hj2.1] at hcell
        rw [hrow]
        simp only [bok]
        rw [hcell]
        simp only [bok]]
      simp only [bok]
      have hmem : ∀ x, x ∈ (rng 0 (n : Int)).filter (fun j => !decide (tf t dn.length j.toNat = 0)) ↔ (0 ≤ x ∧ x < n) ∧ tf t dn.length x.toNat ≠ 0 := fun x => by
        rw [List.mem_filter, Bool.not_eq_true', decide_eq_false_iff_not]
        constructor
        · exact fun z => ⟨rng_mem z.1, z.2⟩
        · exact fun z => ⟨by
            obtain ⟨k, hk⟩ := Int.eq_ofNat_of_zero_le z.1.1
            rw [List.mem_iff_getElem]
            exact ⟨k, by rw [rng_len]; omega, by rw [rng_at]; omega⟩, z.2⟩
      generalize (rng 0 (n : Int)).filter (fun j => !decide (tf t dn.length j.toNat = 0)) = found at hmem ⊢
      cases found with
      | nil =>
        refine ⟨(t, bs, d), .inl rfl, lp, hI.ze, fun l hl hlm hn j hj => ?_⟩
        by_cases hlk : l = dn.length
        · rw [hlk]
          by_cases hz : tf t dn.length j = 0
          · exact hz
          · have := (hmem (j : Int)).mpr ⟨⟨by omega, by omega⟩, by rw [Int.toNat_natCast]; exact hz⟩
            cases this
        · exact hI.zr l (by omega) hlm hn j hj
      | cons q0 rest =>
        obtain ⟨⟨hq0, hqn⟩, hne⟩ := (hmem q0).mp List.mem_cons_self
        obtain ⟨q, rfl⟩ := Int.eq_ofNat_of_zero_le hq0
        rw [Int.toNat_natCast] at hne
        have hqn : q < n := by omega
        rw [show (!((q : Int) :: rest).isEmpty) = true from rfl, if_pos rfl, hrow]
        simp only [bok]
        have ei : idxM ((q : Int) :: rest) 0 = .ok (q : Int) := by
          rw [idx0 (by omega) (by rw [List.length_cons]; omega)]
          rfl
        rw [ei]
        simp only [bok]
        rw [lp.sh.cell (i := dn.length) (j := q) (by omega) (by omega)]
        simp only [bok]
        have fin : ∀ (e : Int) (t1 : List (List Int)), (e = 1 ∨ e = -1) → 0 < e * tf t dn.length q → Shp m n t1 → (∀ j, j ≤ n + m → tf t1 dn.length j = e * tf t dn.length j) → (∀ i, i ≤ m → i ≠ dn.length → ∀ j, j ≤ n + m → tf t1 i j = tf t i j) →
            Ok (((((m_clear_column t1 (dn.length : Int) (q : Int) d).quiet.bind fun y28 => (setM bs (dn.length : Int) (q : Int)).bind fun basis29 => Res.ok (y28.2, basis29, y28.1))).bind fun r13 => (Res.ok (Ctl.nx (r13.1, r13.2.1, r13.2.2)) : Res (Ctl (List (List Int) × List Int × Int) (List (List Int) × List Int × Int) (Int × List (List Int) × List Int))))) fun c_1 => ∃ s', (c_1 = Ctl.nx s' ∨ c_1 = Ctl.ct s') ∧ Dr m n T0 c (dn.length + 1) s'.1 s'.2.1 s'.2.2 := by
          intro e t1 he hpos hs1 g1 g2
          obtain ⟨t', ec, hdr⟩ := swap_ok hB lp hI.ze (fun l hl hlm hn j hj => hI.zr l hl hlm hn j hj) hd hkn hqn he hpos hs1 g1 g2
          rw [ec, show (Res.ok (e * tf t dn.length q, t')).quiet = .ok (e * tf t dn.length q, t') from rfl]
          simp only [bok]
          rw [setM_ok (by omega) (by rw [hlen]; omega), Int.toNat_natCast]
          simp only [bok]
          exact ⟨(t', bs.set dn.length (q : Int), e * tf t dn.length q), .inl rfl, hdr⟩
        by_cases hneg : tf t dn.length q < 0
        · rw [if_pos (decide_eq_true hneg)]
          rw [lcX_ok (g := fun x => -x) (by rw [(lp.sh.at (i := dn.length) (by omega)).2, sizeLine_eq]; omega) fun x _ => rfl]
          simp only [bok]
          rw [setM_ok (by omega) (by rw [lp.sh.ln]; omega), Int.toNat_natCast]
          simp only [bok]
          obtain ⟨n1, n2, n3⟩ := neg_row lp.sh hd
          exact fin (-1) _ (.inr rfl) (by omega) n1 n2 fun i _ hi j _ => n3 i hi j
        · rw [if_neg (by rw [decide_eq_false hneg]; exact Bool.false_ne_true)]
          simp only [bok]
          exact fin 1 t (.inl rfl) (by omega) lp.sh (fun j _ => by rw [Int.one_mul]) fun _ _ _ _ _ => rfl
  · obtain ⟨s', e1, e2⟩ := hc
    rw [List.nil_append, rng_len] at e2
    exact ⟨s', e1, e2⟩
  · exact ⟨hs.lp, fun l hl hn => ⟨hs.zr l hl hl hn, hs.ze l hl hn⟩⟩
end Law

set_option Elab.async false
set_option linter.all false
set_option maxRecDepth 100000
set_option maxHeartbeats 1000000
namespace Law
open PySem PySem.Spec L2 Py Lw La
theorem sum_rng (g : Int → Int) : ∀ n : Nat, ((rng 0 (n : Int)).map g).sum = sm n fun k => g (k : Int)
  | 0 => rfl
  | n + 1 => by
    have e : rng 0 ((n + 1 : Nat) : Int) = rng 0 (n : Int) ++ [(n : Int)] := by
      unfold rng
      rw [show (((n + 1 : Nat) : Int) - 0).toNat = n + 1 by omega, show ((n : Int) - 0).toNat = n by omega, List.range_succ, List.map_append]
      simp
    rw [e, List.map_append, List.sum_append, sum_rng g n]
    show _ + (g (n : Int) + 0) = sm n _ + g (n : Int)
    omega
theorem sum_sm {α : Type} [Inhabited α] (xs : List α) (f : α → Int) : (xs.map f).sum = sm xs.length fun k => f (at0 xs (k : Int)) := by
  rw [← rng_map, sum_rng]
theorem at0_enum {α : Type} [Inhabited α] {xs : List α} {k : Nat} (h : k < xs.length) : at0 (enumL xs) (k : Int) = ((k : Int), at0 xs (k : Int)) := by
  have h2 : k < (enumL xs).length := by rw [enumL_length]; exact h
  obtain ⟨e1, e2⟩ := enumL_get (List.getElem?_eq_getElem h2)
  rw [at0_nat h2]
  refine Prod.ext e1 ?_
  rw [at0_nat h]
  rw [List.getElem?_eq_getElem h] at e2
  exact (Option.some.inj e2).symm
def rowF (m : Nat) (rows : List (List Int)) (ends : List Int) (v : Int × Int) : List Int := (at0 rows v.1).map (fun x => v.2 * x) ++ (rng 0 (m : Int)).map (fun o => if decide (o = v.1) then 1 else 0) ++ [v.2 * at0 ends v.1]
theorem at0_rng {n j : Nat} (h : j < n) : at0 (rng 0 (n : Int)) (j : Int) = (j : Int) := by
  have h2 : j < (rng 0 (n : Int)).length := by rw [rng_len]; exact h
  rw [at0_nat h2, rng_at]
structure Fst (m n : Nat) (rows : List (List Int)) (ends turns : List Int) (t : List (List Int)) (bs : List Int) : Prop where
  sh : Shp m n t
  bl : bs.length = m
  bs : ∀ l, l < m → at0 bs (l : Int) = ((n + l : Nat) : Int)
  re : ∀ k, k < m → ∀ j, j < n → tf t k j = at0 turns (k : Int) * tf rows k j
  un : ∀ k, k < m → ∀ k', k' < m → tf t k (n + k') = dl k k'
  en : ∀ k, k < m → tf t k (n + m) = at0 turns (k : Int) * at0 ends (k : Int)
  cr : ∀ j, j < n → tf t m j = - sm m fun k => tf t k j
  cu : ∀ k, k < m → tf t m (n + k) = 0
  ce : tf t m (n + m) = - sm m fun k => tf t k (n + m)
theorem first_ok {m n : Nat} {rows : List (List Int)} {ends turns : List Int} (hm : m ≤ 1000) (hn : n ≤ 1000) (hr : rows.length = m) (hrw : ∀ row ∈ rows, row.length = n) (he : ends.length = m) (ht : turns.length = m) (small : ∀ x ∈ turns, x = 1 ∨ x = -1) :
    ∃ y, m__first_table rows ends turns (n : Int) = .ok y ∧ Fst m n rows ends turns y.1 y.2 := by
  unfold m__first_table
  have gm : guardR (inRange (m : Int)) (Res.ok (rng 0 (m : Int))) = .ok (rng 0 (m : Int)) := guardR_ok (inRange_of (by omega) (by omega))
  have gn : guardR (inRange (n : Int)) (Res.ok (rng 0 (n : Int))) = .ok (rng 0 (n : Int)) := guardR_ok (inRange_of (by omega) (by omega))
  rw [he]
  simp only [bok, gm, gn]
  have hrow : ∀ k : Nat, k < m → at0 rows (k : Int) ∈ rows := fun k hk => at0_mem (by omega) (by omega)
  have loop : ∃ t0, forR (fun (r3 : List (List Int)) v4 => (((lcX (fun _ => Res.ok true) (fun other7 => Res.ok (if decide (other7 = v4.1) then (1 : Int) else 0)) (rng 0 (m : Int))).bind fun units5 => ((((((idxM rows v4.1).bind fun z11 => lcX (fun _ => Res.ok true) (fun entry10 => mulM v4.2 entry10) z11).bind fun x12 => catM x12 units5).bind fun x17 => ((((idxM ends v4.1).bind fun y15 => mulM v4.2 y15).bind fun a16 => Res.ok [a16]).bind fun y18 => catM x17 y18)).bind fun y20 => appM r3 y20).bind fun table19 => Res.ok table19)))) (enumL turns) ([] : List (List Int)) = .ok t0 ∧ t0 = (enumL turns).map (rowF m rows ends) := by
    apply ok_ex
    refine Post.mono (forR_wp (I := fun d (r : List (List Int)) => r = d.map (rowF m rows ends)) (done := []) rfl fun d x r s e hI => ?_) fun r hr => hr
    obtain ⟨rfl, hd⟩ := enum_pre e
    rw [ht] at hd
    have hts := small _ (at0_mem (xs := turns) (i := (d.length : Int)) (by omega) (by omega))
    have hts2 : (at0 turns (d.length : Int)).natAbs < 18446744073709551616 := by omega
    have hrl := hrw _ (hrow d.length hd)
    dsimp only
    rw [lcX_ok (g := fun other7 => if decide (other7 = (d.length : Int)) then (1 : Int) else 0) (by rw [rng_len, sizeLine_eq]; omega) fun x _ => rfl]
    simp only [bok]
    rw [idx0 (xs := rows) (by omega) (by omega)]
    simp only [bok]
    rw [lcX_ok (g := fun x => at0 turns (d.length : Int) * x) (by rw [hrl, sizeLine_eq]; omega) fun x _ => mul_l hts2]
    simp only [bok]
    rw [cat_ok (by rw [List.length_map, List.length_map, rng_len, hrl, sizeLine_eq]; omega)]
    simp only [bok]
    rw [idx0 (xs := ends) (by omega) (by omega)]
    simp only [bok]
    rw [mul_l hts2]
    simp only [bok]
    rw [cat_ok (by rw [List.length_append, List.length_map, List.length_map, rng_len, hrl, sizeLine_eq, List.length_singleton]; omega)]
    simp only [bok]
    rw [apn_ok (by rw [hI, List.length_map, sizeLine_eq]; omega), hI]
    simp only [bok]
    show _ = _
    rw [List.map_append]
    rfl
  obtain ⟨t0, e0, et0⟩ := loop
  rw [e0]
  simp only [bok]
  have hl0 : t0.length = m := by rw [et0, List.length_map, enumL_length, ht]
  have ea0 : ∀ k, k < m → at0 t0 (k : Int) = rowF m rows ends ((k : Int), at0 turns (k : Int)) := fun k hk => by
    rw [et0, at0_map (by rw [enumL_length]; omega), at0_enum (by omega)]
  have len0 : ∀ k, k < m → (at0 t0 (k : Int)).length = n + m + 1 := fun k hk => by
    rw [ea0 k hk]
    unfold rowF
    rw [List.length_append, List.length_append, List.length_map, List.length_map, rng_len, hrw _ (hrow k hk)]
    rfl
  have lenm : ∀ row ∈ t0, row.length = n + m + 1 := fun row h => by
    obtain ⟨i, hi, e⟩ := List.mem_iff_getElem.mp h
    rw [← e, ← at0_nat hi]
    exact len0 i (by omega)
  rw [lcX_ok (g := fun column => - (t0.map fun row => at0 row column).sum) (by rw [rng_len, sizeLine_eq]; omega) fun col hcol => by
    have hc := rng_mem hcol
    rw [lcX_ok (g := fun row : List Int => at0 row col) (by rw [hl0, sizeLine_eq]; omega) fun row h => idx0 hc.1 (by rw [lenm row h]; omega)]
    simp only [bok]]
  rw [show ∀ xs : List Int, (Res.ok xs).quiet = .ok xs from fun _ => rfl]
  simp only [bok]
  rw [lcX_ok (g := fun row : List Int => at0 row ((n + m : Nat) : Int)) (by rw [hl0, sizeLine_eq]; omega) fun row h => idx_last (lenm row h)]
  simp only [bok]
  rw [show ∀ x : Int, (Res.ok x).quiet = .ok x from fun _ => rfl]
  simp only [bok]
  rw [rep_ok 0 (by omega)]
  simp only [bok]
  rw [cat_ok (by rw [List.length_map, rng_len, List.length_replicate, sizeLine_eq]; omega)]
  simp only [bok]
  rw [cat_ok (by rw [List.length_append, List.length_map, rng_len, List.length_replicate, List.length_singleton, sizeLine_eq]; omega)]
  simp only [bok]
  rw [apn_ok (by rw [hl0, sizeLine_eq]; omega)]
  simp only [bok]
  rw [lcX_ok (g := fun a => (n : Int) + a) (by rw [rng_len, sizeLine_eq]; omega) fun x _ => rfl]
  simp only [bok]
  refine ⟨_, rfl, ?_⟩
  generalize hL : (rng 0 (n : Int)).map (fun column => -(t0.map fun row => at0 row column).sum) ++ List.replicate m (0 : Int) ++ [-(t0.map fun row => at0 row ((n + m : Nat) : Int)).sum] = last
  have lA : ∀ k, k < m → ((at0 rows (k : Int)).map fun x => at0 turns (k : Int) * x).length = n := fun k hk => by rw [List.length_map, hrw _ (hrow k hk)]
  have lU : ∀ k : Nat, ((rng 0 (m : Int)).map fun o => if decide (o = (k : Int)) then (1 : Int) else 0).length = m := fun k => by rw [List.length_map, rng_len]
  have ek : ∀ k, k < m → at0 (t0 ++ [last]) (k : Int) = rowF m rows ends ((k : Int), at0 turns (k : Int)) := fun k hk => by
    rw [at0_app, if_pos (by omega), ea0 k hk]
  have em : at0 (t0 ++ [last]) (m : Int) = last := by
    rw [at0_app, if_neg (by omega), hl0, Nat.sub_self]
    rfl
  have c1' : ∀ k, k < m → ∀ j, j < n → tf (t0 ++ [last]) k j = at0 turns (k : Int) * tf rows k j := fun k hk j hj => by
    unfold tf
    rw [ek k hk]
    unfold rowF
    dsimp only
    rw [at0_app, List.length_append, lA k hk, lU, if_pos (by omega), at0_app, lA k hk, if_pos hj, at0_map (by rw [hrw _ (hrow k hk)]; exact hj)]
  have c2' : ∀ k, k < m → ∀ k', k' < m → tf (t0 ++ [last]) k (n + k') = dl k k' := fun k hk k' hk' => by
    unfold tf
    rw [ek k hk]
    unfold rowF
    dsimp only
    rw [at0_app, List.length_append, lA k hk, lU, if_pos (by omega), at0_app, lA k hk, if_neg (by omega), Nat.add_sub_cancel_left, at0_map (by rw [rng_len]; exact hk'), at0_rng hk']
    unfold dl
    by_cases z : k = k'
    · rw [if_pos (decide_eq_true (by omega)), if_pos z]
    · rw [if_neg (by rw [decide_eq_false (by omega)]; exact Bool.false_ne_true), if_neg z]
  have c3' : ∀ k, k < m → tf (t0 ++ [last]) k (n + m) = at0 turns (k : Int) * at0 ends (k : Int) := fun k hk => by
    unfold tf
    rw [ek k hk]
    unfold rowF
    dsimp only
    rw [at0_app, List.length_append, lA k hk, lU, if_neg (by omega), Nat.sub_self]
    rfl
  have lC : ((rng 0 (n : Int)).map fun column => -(t0.map fun row => at0 row column).sum).length = n := by rw [List.length_map, rng_len]
  have sums : ∀ j : Nat, (t0.map fun row => at0 row (j : Int)).sum = sm m fun k => tf (t0 ++ [last]) k j := fun j => by
    rw [sum_sm, hl0]
    exact sm_congr fun k hk => by
      unfold tf
      rw [at0_app, if_pos (by omega)]
  refine ⟨⟨by rw [List.length_append, hl0]; rfl, fun row h => ?_⟩, by rw [List.length_map, rng_len], fun l hl => ?_, c1', c2', c3', fun j hj => ?_, fun k hk => ?_, ?_⟩
  · rcases List.mem_append.mp h with z | z
    · exact lenm row z
    · rw [List.mem_singleton.mp z, ← hL, List.length_append, List.length_append, lC, List.length_replicate]
      rfl
  · show at0 ((rng 0 (m : Int)).map fun a => (n : Int) + a) (l : Int) = _
    rw [at0_map (by rw [rng_len]; exact hl), at0_rng hl]
    omega
  · show at0 (at0 (t0 ++ [last]) (m : Int)) (j : Int) = _
    rw [em, ← hL, at0_app, List.length_append, lC, List.length_replicate, if_pos (by omega), at0_app, lC, if_pos hj, at0_map (by rw [rng_len]; exact hj), at0_rng hj, hL, sums]
  · show at0 (at0 (t0 ++ [last]) (m : Int)) ((n + k : Nat) : Int) = _
    rw [em, ← hL, at0_app, List.length_append, lC, List.length_replicate, if_pos (by omega), at0_app, lC, if_neg (by omega), at0_rep']
  · show at0 (at0 (t0 ++ [last]) (m : Int)) ((n + m : Nat) : Int) = _
    rw [em, ← hL, at0_app, List.length_append, lC, List.length_replicate, if_neg (by omega), Nat.sub_self, hL, ← sums]
    rfl
end Law

set_option Elab.async false
set_option linter.all false
set_option maxRecDepth 100000
set_option maxHeartbeats 1000000
namespace Law
open PySem PySem.Spec L2 Py Lw La
theorem ph1 {m n : Nat} {rows : List (List Int)} {ends turns : List Int} {t : List (List Int)} {bs : List Int} (F : Fst m n rows ends turns t bs) (pos : ∀ k, k < m → 0 ≤ at0 turns (k : Int) * at0 ends (k : Int)) : LpS m n (tf t) (c1 n m) t bs 1 := by
  have hbf : ∀ l, l < m → bf bs l = n + l := fun l hl => by unfold bf; rw [F.bs l hl, Int.toNat_natCast]
  refine ⟨F.sh, F.bl, fun l hl => by rw [F.bs l hl]; omega, ⟨⟨1, tb_congr (tb_first F.un) (fun _ _ _ _ => rfl) hbf⟩, by decide, fun j hj => ?_, fun i hi => by rw [F.en i hi]; exact pos i hi⟩⟩
  have e1 : (sm m fun l => c1 n m (bf bs l) * tf t l j) = sm m fun l => tf t l j := sm_congr fun l hl => by
    rw [hbf l hl, show c1 n m (n + l) = 1 from if_pos ⟨by omega, by omega⟩, Int.one_mul]
  rw [e1, Int.one_mul]
  by_cases h1 : j < n
  · rw [F.cr j h1, show c1 n m j = 0 from if_neg (by omega)]; omega
  · by_cases h2 : j = n + m
    · rw [h2, F.ce, show c1 n m (n + m) = 0 from if_neg (by omega)]; omega
    · obtain ⟨k, rfl⟩ : ∃ k, j = n + k := ⟨j - n, by omega⟩
      rw [F.cu k (by omega), show c1 n m (n + k) = 1 from if_pos ⟨by omega, by omega⟩]
      have e2 : (sm m fun l => tf t l (n + k)) = 1 := by
        rw [sm_congr (g := fun l => 1 * dl l k) fun l hl => by rw [F.un l hl k (by omega), Int.one_mul], sm_dl (f := fun _ => 1) (by omega)]
      omega
theorem setM_last {α : Type} {xs : List α} {k : Nat} {x : α} (h : xs.length = k + 1) : setM xs (-1) x = .ok (xs.set k x) := by
  unfold setM ixN
  rw [if_neg (by omega), if_pos (by omega)]
  show Res.ok _ = _
  rw [show ((-1 : Int) + (xs.length : Int)).toNat = k by omega]
theorem ph2 {m n : Nat} {T0 : Nat → Nat → Int} {c c' : Nat → Int} {t : List (List Int)} {bs : List Int} {d : Int} {row : List Int} (h : LpS m n T0 c t bs d) (z : Zz m n t bs) (hl : row.length = n + m + 1) (hr : ∀ j, j ≤ n + m → at0 row (j : Int) = d * c' j - sm m fun l => c' (bf bs l) * tf t l j) :
    LpS m n T0 c' (t.set m row) bs d ∧ Zz m n (t.set m row) bs := by
  have ea : ∀ i : Nat, at0 (t.set m row) (i : Int) = if (i : Int) = (m : Int) then row else at0 t (i : Int) := fun i => by
    have := at0_set (ns := t) (i := (m : Int)) (j := (i : Int)) (v := row) (by omega) (by rw [h.sh.ln]; omega) (by omega)
    rw [Int.toNat_natCast] at this
    exact this
  have e1 : ∀ i, i < m → ∀ j, tf (t.set m row) i j = tf t i j := fun i hi j => by
    unfold tf
    rw [ea i, if_neg (by omega)]
  obtain ⟨s, tb⟩ := h.st.tb
  refine ⟨⟨⟨by rw [List.length_set]; exact h.sh.ln, fun r hr => ?_⟩, h.bl, h.bn, ⟨⟨s, tb_congr tb (fun i hi j _ => e1 i hi j) fun _ _ => rfl⟩, h.st.dp, fun j hj => ?_, fun i hi => by rw [e1 i hi]; exact h.st.xs i hi⟩⟩, fun l hl hn => ⟨fun j hj => by rw [e1 l hl]; exact (z l hl hn).1 j hj, by rw [e1 l hl]; exact (z l hl hn).2⟩⟩
  · rcases List.mem_or_eq_of_mem_set hr with w | w
    · exact h.sh.rw r w
    · rw [w]; exact hl
  · show at0 (at0 (t.set m row) (m : Int)) (j : Int) = _
    rw [ea m, if_pos rfl, hr j hj]
    congr 1
    exact sm_congr fun l hl => by rw [e1 l hl]
/-- what an answer says -/
structure Meets (m n : Nat) (rows : List (List Int)) (ends : List Int) (d : Int) (xs : List Int) : Prop where
  ln : xs.length = n
  ro : ∀ k, k < m → (sm n fun j => tf rows k j * at0 xs (j : Int)) = d * at0 ends (k : Int)
  nn : ∀ j, j < n → 0 ≤ at0 xs (j : Int)
def Sml (xs : List Int) : Prop := ∀ x ∈ xs, x.natAbs < 2 ^ 510
def Cert (m n : Nat) (rows : List (List Int)) (ends costs : List Int) : LC → Prop
  | .c2 a p => a = Str.ofString "none" ∧ p.length = m ∧ Sml p ∧ (∀ j, j < n → (sm m fun k => at0 p (k : Int) * tf rows k j) ≤ 0) ∧ 0 < sm m fun k => at0 ends (k : Int) * at0 p (k : Int)
  | .c4 a d xs ys => 0 < d ∧ Meets m n rows ends d xs ∧ Sml xs ∧ Sml ys ∧
    ((a = Str.ofString "endless" ∧ ys.length = n ∧ (∀ k, k < m → (sm n fun j => tf rows k j * at0 ys (j : Int)) = 0) ∧ (∀ j, j < n → 0 ≤ at0 ys (j : Int)) ∧ (sm n fun j => at0 costs (j : Int) * at0 ys (j : Int)) < 0) ∨
     (a = Str.ofString "least" ∧ ys.length = m ∧ (∀ j, j < n → (sm m fun k => at0 ys (k : Int) * tf rows k j) ≤ d * at0 costs (j : Int)) ∧ (sm m fun k => at0 ends (k : Int) * at0 ys (k : Int)) = sm n fun j => at0 costs (j : Int) * at0 xs (j : Int)))
end Law

set_option Elab.async false
set_option linter.all false
set_option maxRecDepth 100000
set_option maxHeartbeats 1000000
namespace Law
open PySem PySem.Spec L2 Py Lw La
theorem enum_mem {α : Type} [Inhabited α] {xs : List α} {v : Int × α} (h : v ∈ enumL xs) : ∃ k : Nat, k < xs.length ∧ v = ((k : Int), at0 xs (k : Int)) := by
  obtain ⟨i, hi, e⟩ := List.mem_iff_getElem.mp h
  rw [enumL_length] at hi
  refine ⟨i, hi, ?_⟩
  rw [← e, ← at0_nat (by rw [enumL_length]; exact hi), at0_enum hi]
theorem sml_map {α : Type} {xs : List α} {g : α → Int} (h : ∀ x ∈ xs, (g x).natAbs < 2 ^ 510) : Sml (xs.map g) := fun y hy => by
  obtain ⟨x, hx, e⟩ := List.mem_map.mp hy
  exact e ▸ h x hx
theorem sml_at {xs : List Int} {n : Nat} (hl : xs.length = n) (h : ∀ j, j < n → (at0 xs (j : Int)).natAbs < 2 ^ 510) : Sml xs := fun y hy => by
  obtain ⟨i, hi, e⟩ := List.mem_iff_getElem.mp hy
  rw [← e, ← at0_nat hi]
  exact h i (by omega)
theorem fac_pos : ∀ m : Nat, 0 < fac m
  | 0 => Nat.one_pos
  | m + 1 => Nat.mul_pos (Nat.succ_pos m) (fac_pos m)
/-- the answer of the least cost -/
theorem least_ok {m n : Nat} {rows : List (List Int)} {ends costs : List Int} {b cb : Nat} (hm : m ≤ 1000) (hn : n ≤ 1000) (hr : rows.length = m) (hrw : ∀ row ∈ rows, row.length = n) (he : ends.length = m) (hc : costs.length = n)
    (rb : ∀ k, k < m → ∀ j, j < n → (tf rows k j).natAbs ≤ b) (eb : ∀ k, k < m → (at0 ends (k : Int)).natAbs ≤ b) (b1 : 1 ≤ b) (cbd : ∀ j, j < n → (at0 costs (j : Int)).natAbs ≤ cb) (cb1 : 1 ≤ cb) (W : (m + 1) * ((cb + 1) * (fac m * b ^ m)) < 2 ^ 500) (hF : (n + m) ^ m < 1000000000000000000000000000000000000000000000000000000000000000000000000000000000000000000000000000000000000000000000) :
    ∃ y, m_least_cost rows ends costs = .ok y ∧ Cert m n rows ends costs y := by
  unfold m_least_cost
  rw [hc]
  simp only [bok]
  rw [lcX_ok (g := fun e => if decide (e < 0) then (-1 : Int) else 1) (by rw [he, sizeLine_eq]; omega) fun x _ => rfl]
  simp only [bok]
  generalize hT : ends.map (fun e => if decide (e < 0) then (-1 : Int) else 1) = turns
  have ht : turns.length = m := by rw [← hT, List.length_map, he]
  have htv : ∀ k, k < m → at0 turns (k : Int) = if decide (at0 ends (k : Int) < 0) then (-1 : Int) else 1 := fun k hk => by
    rw [← hT, at0_map (by omega)]
  have hts : ∀ k, k < m → at0 turns (k : Int) = 1 ∨ at0 turns (k : Int) = -1 := fun k hk => by
    rw [htv k hk]
    split
    · exact .inr rfl
    · exact .inl rfl
  have small : ∀ x ∈ turns, x = 1 ∨ x = -1 := fun x hx => by
    obtain ⟨i, hi, e⟩ := List.mem_iff_getElem.mp hx
    rw [← e, ← at0_nat hi]
    exact hts i (by omega)
  have pos : ∀ k, k < m → 0 ≤ at0 turns (k : Int) * at0 ends (k : Int) := fun k hk => by
    rw [htv k hk]
    by_cases z : at0 ends (k : Int) < 0
    · rw [if_pos (decide_eq_true z)]; omega
    · rw [if_neg (by rw [decide_eq_false z]; exact Bool.false_ne_true)]; omega
  obtain ⟨⟨t0, b0⟩, e0, F⟩ := first_ok (m := m) (n := n) (rows := rows) (ends := ends) (turns := turns) hm hn hr hrw he ht small
  have F : Fst m n rows ends turns t0 b0 := F
  rw [e0]
  simp only [bok]
  have lp0 := ph1 F pos
  have habs : ∀ k, k < m → ∀ x : Int, (at0 turns (k : Int) * x).natAbs = x.natAbs := fun k hk x => ss_abs (hts k hk) x
  have W2 : (m + 1) * ((cb + 1) * (fac m * b ^ m)) < 2 ^ 1000 := Nat.lt_trans W (Nat.pow_lt_pow_right (by omega) (by omega))
  have hT0 : ∀ k, k < m → ∀ j, j ≤ n + m → (tf t0 k j).natAbs ≤ b := fun k hk j hj => by
    by_cases h1 : j < n
    · rw [F.re k hk j h1, habs k hk]; exact rb k hk j h1
    · by_cases h2 : j = n + m
      · rw [h2, F.en k hk, habs k hk]; exact eb k hk
      · obtain ⟨l, rfl⟩ : ∃ l, j = n + l := ⟨j - n, by omega⟩
        rw [F.un k hk l (by omega)]
        unfold dl
        split
        · exact b1
        · exact Nat.zero_le _
  have hB1 : Bo m n (tf t0) (c1 n m) b cb := ⟨hT0, fun j hj => by
    unfold c1
    split
    · exact cb1
    · exact Nat.zero_le _, W2, hm, hn⟩
  obtain ⟨⟨⟨d1, o1⟩, t1, bs1⟩, e1, ⟨lp1, _⟩, im1⟩ := improve_ok (z := False) hB1 hF lp0 (fun z => z.elim)
  have lp1 : LpS m n (tf t0) (c1 n m) t1 bs1 d1 := lp1
  rw [e1, show ∀ x : (Int × Option Int) × List (List Int) × List Int, (Res.ok x).quiet = .ok x from fun _ => rfl]
  simp only [bok]
  obtain ⟨s1, tb1⟩ := lp1.st.tb
  have nn1 : ∀ j, j < n → 0 ≤ tf t1 m j := by
    cases o1 with
    | none => exact im1
    | some q =>
      obtain ⟨qn, _, hq, neg, le⟩ := im1
      have := first_ends tb1.bl hq (lp1.st.co qn (by omega)) le
      have neg : tf t1 m qn < 0 := neg
      omega
  have X1 : fac m * b ^ m ≤ (m + 1) * ((cb + 1) * (fac m * b ^ m)) := Nat.le_trans (Nat.le_mul_of_pos_left _ (Nat.succ_pos cb)) (Nat.le_mul_of_pos_left _ (Nat.succ_pos m))
  obtain ⟨dB1, tB1, rB1, _, _⟩ := tb_bd hB1 tb1 lp1.st.co
  rw [idx_last (k := m) lp1.sh.ln]
  simp only [bok]
  rw [idx_last (k := n + m) (lp1.sh.at (Nat.le_refl m)).2]
  simp only [bok]
  have duals1 : ∀ j, j ≤ n + m → _ := fun j hj => tb1.duals lp1.st.co hj
  by_cases hneg : tf t1 m (n + m) < 0
  · rw [if_pos (decide_eq_true (show at0 (at0 t1 (m : Int)) ((n + m : Nat) : Int) < 0 from hneg))]
    rw [lcX_ok (g := fun v : Int × Int => v.2 * (d1 - tf t1 m (n + v.1.toNat))) (by rw [enumL_length, ht, sizeLine_eq]; omega) fun v hv => by
      obtain ⟨k, hk, rfl⟩ := enum_mem hv
      rw [ht] at hk
      dsimp only
      rw [show (n : Int) + (k : Int) = ((n + k : Nat) : Int) by omega, lp1.sh.cell (Nat.le_refl m) (by omega)]
      simp only [bok]
      rw [mul_l (by rcases hts k hk with z | z <;> rw [z] <;> decide), Int.toNat_natCast]]
    simp only [bok]
    have hp : ∀ k, k < m → at0 ((enumL turns).map fun v : Int × Int => v.2 * (d1 - tf t1 m (n + v.1.toNat))) (k : Int) = at0 turns (k : Int) * (d1 - tf t1 m (n + k)) := fun k hk => by
      rw [at0_map (by rw [enumL_length, ht]; exact hk), at0_enum (by omega)]
      dsimp only
      rw [Int.toNat_natCast]
    have hc1 : ∀ k, k < m → c1 n m (n + k) = 1 := fun k hk => if_pos ⟨by omega, by omega⟩
    refine ⟨_, rfl, rfl, by rw [List.length_map, enumL_length, ht], sml_map fun v hv => ?_, fun j hj => ?_, ?_⟩
    · obtain ⟨k, hk, rfl⟩ := enum_mem hv
      rw [ht] at hk
      dsimp only
      rw [habs k hk, Int.toNat_natCast]
      have a1 := rB1 (n + k) (by omega)
      have a2 : (2 : Nat) ^ 500 + 2 ^ 500 ≤ 2 ^ 510 := by decide
      omega
    · have e := duals1 j (by omega)
      rw [show c1 n m j = 0 from if_neg (by omega), Int.mul_zero] at e
      have e2 : (sm m fun k => at0 ((enumL turns).map fun v : Int × Int => v.2 * (d1 - tf t1 m (n + v.1.toNat))) (k : Int) * tf rows k j) = sm m fun k => (d1 * c1 n m (n + k) - tf t1 m (n + k)) * tf t0 k j := sm_congr fun k hk => by
        rw [hp k hk, hc1 k hk, F.re k hk j hj, Int.mul_one, Int.mul_comm (at0 turns (k : Int)), Int.mul_assoc]
      rw [e2, e]
      have := nn1 j hj
      omega
    · have e := duals1 (n + m) (Nat.le_refl _)
      rw [show c1 n m (n + m) = 0 from if_neg (by omega), Int.mul_zero] at e
      have e2 : (sm m fun k => at0 ends (k : Int) * at0 ((enumL turns).map fun v : Int × Int => v.2 * (d1 - tf t1 m (n + v.1.toNat))) (k : Int)) = sm m fun k => (d1 * c1 n m (n + k) - tf t1 m (n + k)) * tf t0 k (n + m) := sm_congr fun k hk => by
        rw [hp k hk, hc1 k hk, F.en k hk, Int.mul_one, Int.mul_comm (at0 ends (k : Int)), Int.mul_comm (at0 turns (k : Int)), Int.mul_assoc]
      rw [e2, e]
      omega
  · rw [if_neg (by rw [decide_eq_false (show ¬ at0 (at0 t1 (m : Int)) ((n + m : Nat) : Int) < 0 from hneg)]; exact Bool.false_ne_true)]
    have ze := first_zero tb1.bl (lp1.st.co (n + m) (Nat.le_refl _)) lp1.st.xs (by omega)
    obtain ⟨⟨d2, t2, bs2⟩, e2, lp2, zz2⟩ := drive_ok hB1 lp1 ze
    have lp2 : LpS m n (tf t0) (c1 n m) t2 bs2 d2 := lp2
    have zz2 : Zz m n t2 bs2 := zz2
    rw [e2, show ∀ x : Int × List (List Int) × List Int, (Res.ok x).quiet = .ok x from fun _ => rfl]
    simp only [bok]
    obtain ⟨s2, tb2⟩ := lp2.st.tb
    obtain ⟨_, _, _, db2, bb2⟩ := tb_bd hB1 tb2 lp2.st.co
    have cbl : cb < 2 ^ 1000 := by
      have x0 : 1 ≤ fac m * b ^ m := Nat.mul_pos (fac_pos m) (Nat.pow_pos b1)
      have x1 : cb + 1 ≤ (cb + 1) * (fac m * b ^ m) := Nat.le_mul_of_pos_right _ x0
      have x2 : (cb + 1) * (fac m * b ^ m) ≤ (m + 1) * ((cb + 1) * (fac m * b ^ m)) := Nat.le_mul_of_pos_left _ (Nat.succ_pos m)
      omega
    obtain ⟨row, e3, hrl, hra⟩ := cost_row_ok hm hn lp2.sh lp2.bl lp2.bn tb2.bl hc (fun j hj => Nat.lt_of_le_of_lt (cbd j hj) cbl) db2 (fun i hi j hj => bb2 i (by omega) j hj)
    rw [e3, show ∀ x : List Int, (Res.ok x).quiet = .ok x from fun _ => rfl]
    simp only [bok]
    rw [setM_last (k := m) lp2.sh.ln]
    simp only [bok]
    obtain ⟨lp3, zz3⟩ := ph2 lp2 zz2 hrl hra
    have hB2 : Bo m n (tf t0) (cR n costs) b cb := ⟨hT0, fun j hj => by
      unfold cR
      by_cases h : j < n
      · rw [if_pos h]; exact cbd j h
      · rw [if_neg h]; exact Nat.zero_le _, W2, hm, hn⟩
    obtain ⟨⟨⟨d4, o4⟩, t4, bs4⟩, e4, ⟨lp4, zz4⟩, im4⟩ := improve_ok (z := True) hB2 hF lp3 (fun _ => zz3)
    have lQ : LpS m n (tf t0) (cR n costs) t4 bs4 d4 := lp4
    have zQ : Zz m n t4 bs4 := zz4 trivial
    rw [e4, show ∀ x : (Int × Option Int) × List (List Int) × List Int, (Res.ok x).quiet = .ok x from fun _ => rfl]
    simp only [bok]
    rw [rep_ok 0 (by omega)]
    simp only [bok]
    obtain ⟨s4, tb4⟩ := lQ.st.tb
    obtain ⟨dB4, tB4, rB4, _, _⟩ := tb_bd hB2 tb4 lQ.st.co
    have inj : ∀ l, l < m → ∀ l', l' < m → bf bs4 l = bf bs4 l' → l = l' := fun l hl l' hl' e => tb4.inj hl hl' e
    obtain ⟨am, ea, hal, haa⟩ := put_ok (w := fun l => tf t4 l (n + m)) (n := n) (f := fun (r30 : List Int) v31 => (if decide (v31.2 < (n : Int)) = true then (((idxM t4 v31.1).bind fun x33 => idxM x33 (-1)).bind fun a36 => setM r30 v31.2 a36).bind fun amounts35 => Res.ok amounts35 else Res.ok r30).bind fun r32 => Res.ok r32)
      (r0 := List.replicate n (0 : Int)) lQ.bl lQ.bn inj (by rw [List.length_replicate]) (fun r hr l hlm => by
        dsimp only
        rw [(lQ.sh.at (i := l) (by omega)).1]
        simp only [bok]
        rw [idx_last (k := n + m) (lQ.sh.at (i := l) (by omega)).2]
        simp only [bok]
        by_cases hcc : at0 bs4 (l : Int) < (n : Int)
        · rw [if_pos (decide_eq_true hcc), if_pos hcc, setM_ok (lQ.bn l hlm) (by omega)]
          simp only [bok]
          exact (setM_ok (lQ.bn l hlm) (by omega)).symm
        · rw [if_neg (by rw [decide_eq_false hcc]; exact Bool.false_ne_true), if_neg hcc]
          simp only [bok])
    rw [ea]
    simp only [bok]
    have ham : ∀ j, j < n → at0 am (j : Int) = at_ m (bf bs4) (fun l => tf t4 l (n + m)) j := fun j hj => by
      obtain ⟨z1, z2⟩ := haa j hj
      by_cases hx : ∃ l, l < m ∧ bf bs4 l = j
      · obtain ⟨l, hl2, e⟩ := hx
        rw [z1 l hl2 e, at_one inj hl2 e]
      · have hx2 : ∀ l, l < m → bf bs4 l ≠ j := fun l hl2 e => hx ⟨l, hl2, e⟩
        rw [z2 hx2, at0_rep hj, at_none hx2]
    have atb : ∀ (w : Nat → Int), (∀ l, l < m → (w l).natAbs ≤ fac m * b ^ m) → ∀ j, (at_ m (bf bs4) w j).natAbs ≤ fac m * b ^ m := fun w hw j => by
      by_cases hx : ∃ l, l < m ∧ bf bs4 l = j
      · obtain ⟨l, hl2, e⟩ := hx
        rw [at_one inj hl2 e]; exact hw l hl2
      · rw [at_none fun l hl2 e => hx ⟨l, hl2, e⟩]; exact Nat.zero_le _
    have big : (2 : Nat) ^ 500 ≤ 2 ^ 510 := by decide
    have Xb : fac m * b ^ m < 2 ^ 510 := by omega
    have dp4 := lQ.st.dp
    have unturn : ∀ k, k < m → ∀ x y : Int, at0 turns (k : Int) * x = at0 turns (k : Int) * y → x = y := fun k hk x y e => by
      rcases hts k hk with z | z <;> rw [z] at e <;> omega
    have rowsum : ∀ k, k < m → ∀ g : Nat → Int, (sm n fun j => tf t0 k j * g j) = at0 turns (k : Int) * sm n fun j => tf rows k j * g j := fun k hk g => by
      rw [← sm_mul]
      exact sm_congr fun j hj => by rw [F.re k hk j hj, Int.mul_assoc]
    have z4N : ∀ l, l < m → n ≤ bf bs4 l → tf t4 l (n + m) = 0 := fun l hl h => (zQ l hl h).2
    have meets : Meets m n rows ends d4 am := ⟨hal, fun k hk => by
      refine unturn k hk _ _ ?_
      rw [sm_congr fun j hj => by rw [ham j hj], ← rowsum k hk, tb4.meets z4N hk, F.en k hk, mul3], fun j hj => by
      rw [ham j hj]; exact at_nonneg fun l hl _ => lQ.st.xs l hl⟩
    have sml4 : Sml am := sml_at hal fun j hj => by
      rw [ham j hj]
      exact Nat.lt_of_le_of_lt (atb _ (fun l hl => tB4 l hl _ (Nat.le_refl _)) j) Xb
    have cRr : ∀ j, j < n → cR n costs j = at0 costs (j : Int) := fun j hj => if_pos hj
    have cRu : ∀ j, n ≤ j → cR n costs j = 0 := fun j hj => if_neg (by omega)
    cases o4 with
    | none =>
      have im4 : ∀ j, j < n → 0 ≤ tf t4 m j := im4
      rw [show (!(none : Option Int).isNone) = false from rfl, if_neg Bool.false_ne_true]
      rw [lcX_ok (g := fun v : Int × Int => -v.2 * tf t4 m (n + v.1.toNat)) (by rw [enumL_length, ht, sizeLine_eq]; omega) fun v hv => by
        obtain ⟨k, hk, rfl⟩ := enum_mem hv
        rw [ht] at hk
        dsimp only
        rw [idx_last (k := m) lQ.sh.ln]
        simp only [bok]
        rw [show (n : Int) + (k : Int) = ((n + k : Nat) : Int) by omega, lQ.sh.cell (Nat.le_refl m) (by omega)]
        simp only [bok]
        rw [mul_l (by rcases hts k hk with z | z <;> rw [z] <;> decide), Int.toNat_natCast]]
      simp only [bok]
      have hp : ∀ k, k < m → at0 ((enumL turns).map fun v : Int × Int => -v.2 * tf t4 m (n + v.1.toNat)) (k : Int) = -(at0 turns (k : Int)) * tf t4 m (n + k) := fun k hk => by
        rw [at0_map (by rw [enumL_length, ht]; exact hk), at0_enum (by omega)]
        dsimp only
        rw [Int.toNat_natCast]
      refine ⟨_, rfl, dp4, meets, sml4, sml_map fun v hv => ?_, .inr ⟨rfl, by rw [List.length_map, enumL_length, ht], fun j hj => ?_, ?_⟩⟩
      · obtain ⟨k, hk, rfl⟩ := enum_mem hv
        rw [ht] at hk
        dsimp only
        rw [Int.neg_mul, Int.natAbs_neg, habs k hk, Int.toNat_natCast]
        have a1 := rB4 (n + k) (by omega)
        omega
      · have e := tb4.duals lQ.st.co (j := j) (by omega)
        have e2 : (sm m fun k => at0 ((enumL turns).map fun v : Int × Int => -v.2 * tf t4 m (n + v.1.toNat)) (k : Int) * tf rows k j) = sm m fun k => (d4 * cR n costs (n + k) - tf t4 m (n + k)) * tf t0 k j := sm_congr fun k hk => by
          rw [hp k hk, cRu (n + k) (by omega), F.re k hk j hj, Int.mul_zero, Int.zero_sub, Int.neg_mul, Int.neg_mul, Int.neg_mul, Int.mul_comm (at0 turns (k : Int)), Int.mul_assoc]
        rw [e2, e, cRr j hj]
        have := im4 j hj
        omega
      · have e := tb4.duals lQ.st.co (j := n + m) (Nat.le_refl _)
        have e2 : (sm m fun k => at0 ends (k : Int) * at0 ((enumL turns).map fun v : Int × Int => -v.2 * tf t4 m (n + v.1.toNat)) (k : Int)) = sm m fun k => (d4 * cR n costs (n + k) - tf t4 m (n + k)) * tf t0 k (n + m) := sm_congr fun k hk => by
          rw [hp k hk, cRu (n + k) (by omega), F.en k hk, Int.mul_zero, Int.zero_sub, Int.neg_mul, Int.mul_neg, Int.neg_mul, Int.mul_comm (at0 ends (k : Int)), Int.mul_comm (at0 turns (k : Int)), Int.mul_assoc]
        rw [e2, e, cRu (n + m) (by omega), Int.mul_zero, Int.zero_sub, ← Tb.worth lQ.st.co z4N (cRu (n + m) (by omega))]
        exact sm_congr fun j hj => by rw [cRr j hj, ham j hj]
    | some qz =>
      obtain ⟨q, rfl, hq, neg, le⟩ := im4
      have neg : tf t4 m q < 0 := neg
      have le : ∀ i, i < m → tf t4 i q ≤ 0 := le
      rw [show (!(some (q : Int)).isNone) = true from rfl, if_pos rfl, show getO (some (q : Int)) = .ok (q : Int) from rfl]
      simp only [bok]
      have hb : ∀ l, l < m → bf bs4 l ≠ q := fun l hl e => by
        have := lQ.st.basic0 hl
        rw [e] at this
        omega
      obtain ⟨wy, ew, hwl, hwa⟩ := way_ok (d := d4) hm hn lQ.sh lQ.bl lQ.bn inj hq hb
      rw [ew, show ∀ x : List Int, (Res.ok x).quiet = .ok x from fun _ => rfl]
      simp only [bok]
      have z4q : ∀ l, l < m → n ≤ bf bs4 l → tf t4 l q = 0 := fun l hl h => (zQ l hl h).1 q hq
      refine ⟨_, rfl, dp4, meets, sml4, sml_at hwl fun j hj => ?_, .inl ⟨rfl, hwl, fun k hk => ?_, fun j hj => ?_, ?_⟩⟩
      · rw [hwa j hj]
        split
        · exact Nat.lt_of_le_of_lt dB4 Xb
        · exact Nat.lt_of_le_of_lt (atb _ (fun l hl => by rw [Int.natAbs_neg]; exact tB4 l hl _ (by omega)) j) Xb
      · refine unturn k hk _ _ ?_
        rw [sm_congr fun j hj => by rw [hwa j hj], ← rowsum k hk, tb4.way hq z4q hb hk, Int.mul_zero]
      · rw [hwa j hj]
        split
        · omega
        · exact at_nonneg fun l hl _ => by have := le l hl; omega
      · have e := Tb.wayCost (B := bf bs4) lQ.st.co hq z4q hb
        rw [sm_congr (g := fun j => cR n costs j * (if j = q then d4 else at_ m (bf bs4) (fun l => - tf t4 l q) j)) fun j hj => by rw [hwa j hj, cRr j hj], e]
        exact neg
end Law

set_option Elab.async false
set_option linter.all false
set_option maxRecDepth 100000
set_option maxHeartbeats 1000000
namespace Law
open PySem PySem.Spec L2 Py Lw La
def dInts (xs : List Int) : PyData := .list (xs.map PyData.int)
theorem ixD {xs : List Int} {k : Nat} (h : k < xs.length) : idxD ⟨dInts xs⟩ (k : Int) = .ok ⟨.int (at0 xs (k : Int))⟩ := by
  unfold dInts
  rw [idxD_list (by omega) (by rw [List.length_map]; omega)]
  congr 2
  rw [List.getElem_map]
  congr 1
  rw [at0_nat h]
  rfl
theorem value_ok {row xs : List Int} {n : Nat} (hl : row.length = n) (hx : xs.length = n) (hn : n ≤ 1000) (hr : ∀ k, k < n → (at0 row (k : Int)).natAbs < 18446744073709551616) : m__law_value_o2 row ⟨dInts xs⟩ = .ok (sm n fun k => at0 row (k : Int) * at0 xs (k : Int)) := by
  unfold m__law_value_o2
  rw [hl, guardR_ok (inRange_of (by omega) (by omega))]
  simp only [bok]
  rw [lcX_ok (g := fun i => at0 row i * at0 xs i) (by rw [rng_len, sizeLine_eq]; omega) fun i hi => by
    have h := rng_mem hi
    obtain ⟨k, rfl⟩ := Int.eq_ofNat_of_zero_le h.1
    rw [idx0 (by omega) (by omega)]
    simp only [bok]
    rw [ixD (by omega)]
    simp only [bok]
    rw [show ∀ z : Int, asI ⟨.int z⟩ = .ok z from fun _ => rfl]
    simp only [bok]
    exact mul_l (hr k (by omega))]
  simp only [bok]
  rw [sum_rng]
theorem column_ok {rows : List (List Int)} {xs : List Int} {m n j : Nat} (hl : rows.length = m) (hrw : ∀ row ∈ rows, row.length = n) (hx : xs.length = m) (hm : m ≤ 1000) (hj : j < n) (hr : ∀ k, k < m → ∀ j, j < n → (tf rows k j).natAbs < 18446744073709551616) : m__law_column rows ⟨dInts xs⟩ (j : Int) = .ok (sm m fun k => at0 xs (k : Int) * tf rows k j) := by
  unfold m__law_column
  rw [hl, guardR_ok (inRange_of (by omega) (by omega))]
  simp only [bok]
  rw [lcX_ok (g := fun i => at0 xs i * at0 (at0 rows i) (j : Int)) (by rw [rng_len, sizeLine_eq]; omega) fun i hi => by
    have h := rng_mem hi
    obtain ⟨k, rfl⟩ := Int.eq_ofNat_of_zero_le h.1
    rw [ixD (by omega)]
    simp only [bok]
    rw [show ∀ z : Int, asI ⟨.int z⟩ = .ok z from fun _ => rfl]
    simp only [bok]
    rw [idx0 (xs := rows) (by omega) (by omega)]
    simp only [bok]
    rw [idx0 (by omega) (by rw [hrw _ (at0_mem (by omega) (by omega))]; omega)]
    simp only [bok]
    exact mul_r (hr k (by omega) j hj)]
  simp only [bok]
  rw [sum_rng]
  rfl
theorem short_gen {x L : Int} (h1 : L.natAbs < 2 ^ 200) (h2 : (L * L).natAbs < 2 ^ 400) (h3 : (L * L * L).natAbs < 2 ^ 600) (h4 : (x.natAbs : Int) < L * L * L * L) (hp : powM 10 50 = .ok L) : m__law_short x = .ok true := by
  unfold m__law_short
  rw [hp]
  simp only [bok]
  rw [mul_big h1 h1 (by decide)]
  simp only [bok]
  rw [mul_big h2 h1 (by decide)]
  simp only [bok]
  rw [mul_big h3 h1 (by decide)]
  simp only [bok]
  rw [decide_eq_true h4]
theorem short_ok {x : Int} (h : x.natAbs < 2 ^ 510) : m__law_short x = .ok true := by
  refine short_gen (L := 100000000000000000000000000000000000000000000000000) (by decide +kernel) (by decide +kernel) (by decide +kernel) ?_ rfl
  have e : (100000000000000000000000000000000000000000000000000 : Int) * 100000000000000000000000000000000000000000000000000 * 100000000000000000000000000000000000000000000000000 * 100000000000000000000000000000000000000000000000000 = ((100000000000000000000000000000000000000000000000000000000000000000000000000000000000000000000000000000000000000000000000000000000000000000000000000000000000000000000000000000000000000000000000000000000 : Nat) : Int) := by decide +kernel
  rw [e]
  have : (2 : Nat) ^ 510 < 100000000000000000000000000000000000000000000000000000000000000000000000000000000000000000000000000000000000000000000000000000000000000000000000000000000000000000000000000000000000000000000000000000000 := by decide +kernel
  exact Int.ofNat_lt.mpr (Nat.lt_trans h this)
theorem whole_ok {xs : List Int} {n : Nat} (hl : xs.length = n) (hn : n ≤ 1000) (h : Sml xs) : m__law_whole_list ⟨dInts xs⟩ (n : Int) = .ok true := by
  unfold m__law_whole_list
  have e1 : (Len.len (⟨dInts xs⟩ : PD) : Res Int) = .ok (n : Int) := by
    show Res.ok (((xs.map PyData.int).length : Nat) : Int) = _
    rw [List.length_map, hl]
  rw [show isLst ⟨dInts xs⟩ = true from rfl, e1]
  simp only [bok, orM_ok]
  rw [if_neg (by simp)]
  rw [show itD ⟨dInts xs⟩ = .ok ((xs.map PyData.int).map PD.mk) from rfl]
  simp only [bok]
  have hm : ∀ x ∈ (xs.map PyData.int).map PD.mk, ∃ i : Int, x = ⟨.int i⟩ ∧ i.natAbs < 2 ^ 510 := fun x hx => by
    obtain ⟨d, hd, rfl⟩ := List.mem_map.mp hx
    obtain ⟨i, hi, rfl⟩ := List.mem_map.mp hd
    exact ⟨i, rfl, h i hi⟩
  rw [lcX_id (p := fun _ => true) (by rw [List.length_map, List.length_map, hl, sizeLine_eq]; omega) fun x hx => by
    obtain ⟨i, rfl, hi⟩ := hm x hx
    show andM (Res.ok true) ((Res.ok i).bind fun a5 => m__law_short a5) = _
    simp only [bok]
    rw [short_ok hi]
    rfl]
  simp only [bok]
  rw [List.filter_eq_self.mpr fun _ _ => rfl]
  show (Res.ok ((((xs.map PyData.int).map PD.mk).length : Nat) : Int)).bind _ = _
  rw [List.length_map, List.length_map, hl]
  simp only [bok]
  simp
theorem meets_ok {rows : List (List Int)} {ends xs : List Int} {m n : Nat} {d : Int} (hl : rows.length = m) (hrw : ∀ row ∈ rows, row.length = n) (he : ends.length = m) (hx : xs.length = n) (hm : m ≤ 1000) (hn : n ≤ 1000) (hr : ∀ k, k < m → ∀ j, j < n → (tf rows k j).natAbs < 18446744073709551616) (hb : ∀ k, k < m → (at0 ends (k : Int)).natAbs < 18446744073709551616)
    (h1 : ∀ k, k < m → (sm n fun j => tf rows k j * at0 xs (j : Int)) = d * at0 ends (k : Int)) (h2 : ∀ j, j < n → 0 ≤ at0 xs (j : Int)) : m__law_meets rows ⟨dInts xs⟩ ends d = .ok true := by
  unfold m__law_meets
  rw [hl, guardR_ok (inRange_of (by omega) (by omega))]
  simp only [bok]
  rw [forC_look fun i hi => by
    have h := rng_mem hi
    obtain ⟨k, rfl⟩ := Int.eq_ofNat_of_zero_le h.1
    rw [idx0 (xs := rows) (by omega) (by omega)]
    simp only [bok]
    rw [value_ok (n := n) (hrw _ (at0_mem (by omega) (by omega))) hx hn fun j hj => hr k (by omega) j hj]
    simp only [bok]
    rw [idx0 (xs := ends) (by omega) (by omega)]
    simp only [bok]
    rw [mul_r (hb k (by omega))]
    simp only [bok]
    rw [if_neg (by
      have e := h1 k (by omega)
      rw [show (sm n fun j => at0 (at0 rows (k : Int)) (j : Int) * at0 xs (j : Int)) = d * at0 ends (k : Int) from e]
      simp)]]
  rw [thenR_nx]
  rw [show itD ⟨dInts xs⟩ = .ok ((xs.map PyData.int).map PD.mk) from rfl]
  simp only [bok]
  rw [lcX_id (p := fun _ => false) (by rw [List.length_map, List.length_map, hx, sizeLine_eq]; omega) fun x hxx => by
    obtain ⟨d, hd, rfl⟩ := List.mem_map.mp hxx
    obtain ⟨i, hi, rfl⟩ := List.mem_map.mp hd
    obtain ⟨j, hj, e⟩ := List.mem_iff_getElem.mp hi
    have := h2 j (by omega)
    rw [at0_nat hj, e] at this
    show Res.ok (decide (i < 0)) = _
    rw [decide_eq_false (by omega)]]
  simp only [bok]
  rw [List.filter_eq_nil_iff.mpr (by simp)]
  rfl
theorem eq_str {a b : Str} (h0 : PySem.PyData.strOk a = true) (h1 : PySem.PyData.strOk b = true) : eqvD ⟨.str a⟩ ⟨.str b⟩ = .ok (decide (a = b)) := by
  unfold eqvD
  have h : SeqAt.shaped (.str a) = true := dat_shaped (T := Str) (by decide) a h0
  have h' : SeqAt.shaped (.str b) = true := dat_shaped (T := Str) (by decide) b h1
  rw [guardR_ok (by rw [show SeqAt.shaped (PD.mk (.str a)).d = true from h, show SeqAt.shaped (PD.mk (.str b)).d = true from h']; rfl)]
  show Res.ok (PyData.eqv (.str a) (.str b)) = _
  rw [show PyData.eqv (.str a) (.str b) = Dat.dec a b from Dat.eqv a b]
  rfl
theorem tup_at {ds : List PyData} {i : Nat} {d : PyData} (h : ds[i]? = some d) : idxD ⟨.tuple ds⟩ (i : Int) = .ok ⟨d⟩ := by
  obtain ⟨h1, h2⟩ := List.getElem?_eq_some_iff.mp h
  rw [idxD_tup (by omega) (by omega)]
  exact congrArg (fun d => Res.ok (PD.mk d)) h2
theorem right_ok {m n : Nat} {rows : List (List Int)} {ends costs : List Int} {y : LC} (hl : rows.length = m) (hrw : ∀ row ∈ rows, row.length = n) (he : ends.length = m) (hc : costs.length = n) (hm : m ≤ 1000) (hn : n ≤ 1000) (hr : ∀ k, k < m → ∀ j, j < n → (tf rows k j).natAbs < 18446744073709551616) (hb : ∀ k, k < m → (at0 ends (k : Int)).natAbs < 18446744073709551616) (hcb : ∀ j, j < n → (at0 costs (j : Int)).natAbs < 18446744073709551616)
    (h : Cert m n rows ends costs y) : m__law_right rows ends costs ⟨y.pd⟩ = .ok true := by
  unfold m__law_right
  have lenT : ∀ ds : List PyData, (Len.len (⟨.tuple ds⟩ : PD) : Res Int) = .ok (ds.length : Int) := fun _ => rfl
  cases y with
  | c2 a p =>
    obtain ⟨rfl, hp, sp, c1, c2⟩ := h
    show _ = _
    rw [show (LC.c2 (Str.ofString "none") p).pd = .tuple [.str (Str.ofString "none"), dInts p] from rfl]
    have i0 : idxD ⟨.tuple [.str (Str.ofString "none"), dInts p]⟩ 0 = .ok ⟨.str (Str.ofString "none")⟩ := tup_at (i := 0) rfl
    have i1 : idxD ⟨.tuple [.str (Str.ofString "none"), dInts p]⟩ 1 = .ok ⟨dInts p⟩ := tup_at (i := 1) rfl
    rw [lenT, i0]
    simp only [bok, orM_ok]
    rw [if_neg (by exact Bool.false_ne_true)]
    rw [show (Dat.toD (Str.ofString "none")) = PyData.str (Str.ofString "none") from rfl, eq_str (by decide +kernel) (by decide +kernel)]
    simp only [bok]
    rw [if_pos (by decide +kernel)]
    unfold m__law_none
    rw [lenT, i1]
    simp only [bok]
    rw [hl, whole_ok hp hm sp]
    simp only [bok, orM_ok]
    rw [if_neg (by exact Bool.false_ne_true), hc, guardR_ok (inRange_of (by omega) (by omega))]
    simp only [bok]
    rw [forC_look fun i hi => by
      have h := rng_mem hi
      obtain ⟨j, rfl⟩ := Int.eq_ofNat_of_zero_le h.1
      rw [column_ok hl hrw hp hm (by omega) hr]
      simp only [bok]
      rw [if_neg (by rw [decide_eq_false (by have := c1 j (by omega); omega)]; exact Bool.false_ne_true)]]
    rw [thenR_nx, value_ok he hp hm hb]
    simp only [bok]
    rw [decide_eq_true c2]
  | c4 a d xs ys =>
    obtain ⟨dp, mt, sx, sy, h⟩ := h
    rw [show (LC.c4 a d xs ys).pd = .tuple [.str a, .int d, dInts xs, dInts ys] from rfl]
    have i0 : idxD ⟨.tuple [.str a, .int d, dInts xs, dInts ys]⟩ 0 = .ok ⟨.str a⟩ := tup_at (i := 0) rfl
    have i1 : idxD ⟨.tuple [.str a, .int d, dInts xs, dInts ys]⟩ 1 = .ok ⟨.int d⟩ := tup_at (i := 1) rfl
    have i2 : idxD ⟨.tuple [.str a, .int d, dInts xs, dInts ys]⟩ 2 = .ok ⟨dInts xs⟩ := tup_at (i := 2) rfl
    have i3 : idxD ⟨.tuple [.str a, .int d, dInts xs, dInts ys]⟩ 3 = .ok ⟨dInts ys⟩ := tup_at (i := 3) rfl
    have eI : asI ⟨.int d⟩ = .ok d := rfl
    rw [lenT, i0, i1, i2, i3]
    simp only [bok, orM_ok]
    rw [if_neg (by exact Bool.false_ne_true)]
    have tn : Dat.toD (Str.ofString "none") = PyData.str (Str.ofString "none") := rfl
    have te : Dat.toD (Str.ofString "endless") = PyData.str (Str.ofString "endless") := rfl
    have tl : Dat.toD (Str.ofString "least") = PyData.str (Str.ofString "least") := rfl
    have m1 := meets_ok hl hrw he mt.ln hm hn hr hb mt.ro mt.nn
    have w2 := whole_ok mt.ln hn sx
    have common : ∀ (k : Bool), (if k then Res.ok false else (Res.ok true : Res Bool)) = .ok (!k) := fun k => by cases k <;> rfl
    rcases h with ⟨rfl, h1, h2, h3, h4⟩ | ⟨rfl, h1, h2, h3⟩
    · rw [tn, te, eq_str (by decide +kernel) (by decide +kernel), eq_str (by decide +kernel) (by decide +kernel)]
      simp only [bok]
      rw [if_neg (by decide +kernel)]
      rw [show m__law_is_whole ⟨.int d⟩ = .ok true from rfl, eI]
      simp only [bok, orM_ok]
      rw [if_neg (by rw [decide_eq_false (show ¬ d < 1 by omega)]; exact Bool.false_ne_true), hc, w2, m1]
      simp only [bok, orM_ok]
      rw [if_neg (by exact Bool.false_ne_true), if_pos (by decide +kernel), whole_ok h1 hn sy]
      simp only [bok]
      rw [if_neg (by exact Bool.false_ne_true), meets_ok hl hrw he h1 hm hn hr hb (d := 0) (fun k hk => by rw [h2 k hk, Int.zero_mul]) h3, value_ok hc h1 hn hcb]
      simp only [bok, andM_ok]
      rw [decide_eq_true h4]
      rfl
    · rw [tn, te, tl, eq_str (by decide +kernel) (by decide +kernel), eq_str (by decide +kernel) (by decide +kernel), eq_str (by decide +kernel) (by decide +kernel)]
      simp only [bok]
      rw [if_neg (by decide +kernel)]
      rw [show m__law_is_whole ⟨.int d⟩ = .ok true from rfl, eI]
      simp only [bok, orM_ok]
      rw [if_neg (by rw [decide_eq_false (show ¬ d < 1 by omega)]; exact Bool.false_ne_true), hc, w2, m1]
      simp only [bok, orM_ok]
      rw [if_neg (by exact Bool.false_ne_true), if_neg (by decide +kernel), hl, whole_ok h1 hm sy]
      simp only [bok, orM_ok]
      rw [if_neg (by decide +kernel), guardR_ok (inRange_of (by omega) (by omega))]
      simp only [bok]
      rw [forC_look fun i hi => by
        have hh := rng_mem hi
        obtain ⟨j, rfl⟩ := Int.eq_ofNat_of_zero_le hh.1
        rw [column_ok hl hrw h1 hm (by omega) hr]
        simp only [bok]
        rw [idx0 (xs := costs) (by omega) (by omega)]
        simp only [bok]
        rw [mul_r (hcb j (by omega))]
        simp only [bok]
        rw [if_neg (by rw [decide_eq_false (by have := h2 j (by omega); omega)]; exact Bool.false_ne_true)]]
      rw [thenR_nx, value_ok he h1 hm hb, value_ok hc mt.ln hn hcb]
      simp only [bok]
      rw [decide_eq_true h3]
end Law

set_option Elab.async false
set_option linter.all false
set_option maxRecDepth 100000
set_option maxHeartbeats 1000000
namespace Law
open PySem PySem.Spec L2 Py Lw La
def gP : PyData → PyData
  | .list ds => .tuple [.str (Str.ofString "list"), .tuple ds]
  | d => .tuple [.str (Str.ofString "one"), d]
theorem plain_ok {ds : List PyData} (hl : ds.length ≤ 1000) : m__law_plain ⟨.tuple ds⟩ = .ok (ds.map fun d => PD.mk (gP d)) := by
  unfold m__law_plain
  simp only [bok]
  rw [show itD ⟨.tuple ds⟩ = .ok (ds.map PD.mk) from rfl]
  simp only [bok]
  have key : Ok (forR (fun (r2 : List PD) part3 => ((if (isLst part3) then (((((tupD part3).bind fun a5 => Res.ok ((Str.ofString "list"), a5)).bind fun x6 => Res.ok (PD.mk (ToD.toD x6))).bind fun y8 => appM r2 y8).bind fun found7 => Res.ok found7) else ((appM r2 (PD.mk (ToD.toD ((Str.ofString "one"), part3)))).bind fun found9 => Res.ok found9)).bind fun r4 => Res.ok r4)) (ds.map PD.mk) ([] : List PD)) fun r => r = ds.map fun d => PD.mk (gP d) := by
    refine Post.mono (forR_wp (I := fun (dn : List PD) (r : List PD) => r = dn.map fun d => PD.mk (gP d.d)) (done := []) rfl fun dn x r s e hI => ?_) fun r hr => ?_
    · have hlen : s.length < sizeLine := by
        have := congrArg List.length e
        rw [List.length_append, List.length_append, List.length_map, List.length_cons] at this
        rw [hI, List.length_map, sizeLine_eq]
        simp at this
        omega
      obtain ⟨d⟩ := x
      rw [List.map_append, ← hI]
      cases d with
      | list ds =>
        rw [if_pos (show isLst ⟨.list ds⟩ = true from rfl), show tupD ⟨.list ds⟩ = .ok ⟨.tuple ds⟩ from rfl]
        simp only [bok]
        rw [apn_ok hlen]
        exact rfl
      | _ =>
        rw [if_neg (by exact Bool.false_ne_true), apn_ok hlen]
        exact rfl
    · rw [hr, List.nil_append, List.map_map]
      rfl
  obtain ⟨r, e1, e2⟩ := ok_ex key
  rw [← e2]
  have : ∀ x : Res (List PD), (x.bind fun r5 => Res.ok r5) = x := fun x => by cases x <;> rfl
  rw [this]
  exact e1
theorem ints_lay (xs : List Int) : PyData.canLayAll0 (xs.map PyData.int) = true := by
  induction xs with
  | nil => rfl
  | cons x xs ih => rw [List.map_cons]; simp only [PyData.canLayAll0, PyData.canLay0, ih, Bool.and_self]
theorem ints_dep (xs : List Int) : PyData.depthAll (xs.map PyData.int) ≤ 1 := by
  induction xs with
  | nil => simp [PyData.depthAll]
  | cons x xs ih => rw [List.map_cons]; simp only [PyData.depthAll, PyData.depth]; omega
theorem ints_noL (xs : List Int) : noLs (xs.map PyData.int) = true := by
  induction xs with
  | nil => simp only [List.map_nil, noLs]
  | cons x xs ih => rw [List.map_cons]; simp only [noLs, noL, ih, Bool.and_self]
theorem self_eqv {d : PyData} (h : SeqAt.shaped d = true) : eqvD ⟨d⟩ ⟨d⟩ = .ok true := by
  unfold eqvD
  rw [guardR_ok (by rw [show SeqAt.shaped (PD.mk d).d = true from h]; rfl)]
  rw [show PyData.eqv (PD.mk d).d (PD.mk d).d = true from SeqAt.eqv_refl d (SeqAt.canLay_of_shaped h)]
def its : LC → List PyData
  | .c2 a xs => [.str a, dInts xs]
  | .c4 a d xs ys => [.str a, .int d, dInts xs, dInts ys]
theorem its_pd (y : LC) : y.pd = .tuple (its y) := by cases y <;> rfl
theorem its_noL (y : LC) : noLs ((its y).map gP) = true := by
  cases y <;> simp only [its, List.map_cons, List.map_nil, gP, dInts, noLs, noL, ints_noL, Bool.and_self]
def word : LC → Str
  | .c2 a _ => a
  | .c4 a _ _ _ => a
theorem its_shaped (y : LC) (h : PySem.PyData.strOk (word y) = true) : SeqAt.shaped (.list ((its y).map gP)) = true := by
  have h1 : PySem.PyData.strOk (Str.ofString "one") = true := by decide +kernel
  have h2 : PySem.PyData.strOk (Str.ofString "list") = true := by decide +kernel
  unfold SeqAt.shaped
  rw [Bool.and_eq_true]
  cases y with
  | c2 a p =>
    have h : PySem.PyData.strOk a = true := h
    refine ⟨by simp only [its, List.map_cons, List.map_nil, gP, dInts, PyData.canLay0, PyData.canLayAll0, ints_lay, h, h1, h2, Bool.and_self], decide_eq_true ?_⟩
    have := ints_dep p
    simp only [its, List.map_cons, List.map_nil, gP, dInts, PyData.depth, PyData.depthAll]
    omega
  | c4 a d xs ys =>
    have h : PySem.PyData.strOk a = true := h
    refine ⟨by simp only [its, List.map_cons, List.map_nil, gP, dInts, PyData.canLay0, PyData.canLayAll0, ints_lay, h, h1, h2, Bool.and_self], decide_eq_true ?_⟩
    have := ints_dep xs
    have := ints_dep ys
    simp only [its, List.map_cons, List.map_nil, gP, dInts, PyData.depth, PyData.depthAll]
    omega
theorem cert_word {m n : Nat} {rows : List (List Int)} {ends costs : List Int} {y : LC} (h : Cert m n rows ends costs y) : PySem.PyData.strOk (word y) = true := by
  cases y with
  | c2 a p => obtain ⟨rfl, _⟩ := h; exact (by decide +kernel : PySem.PyData.strOk (Str.ofString "none") = true)
  | c4 a d xs ys =>
    obtain ⟨_, _, _, _, h⟩ := h
    rcases h with ⟨rfl, _⟩ | ⟨rfl, _⟩
    · exact (by decide +kernel : PySem.PyData.strOk (Str.ofString "endless") = true)
    · exact (by decide +kernel : PySem.PyData.strOk (Str.ofString "least") = true)
theorem spoil_ok {f : Unit → Int ⊕ List Int → Res Unit} (h1 : ∀ d, f () (.inl d) = .ok ()) (h2 : ∀ xs : List Int, xs.length ≤ 1000 → f () (.inr xs) = .ok ()) (y : LC) {m n : Nat} {rows : List (List Int)} {ends costs : List Int} (hm : m ≤ 1000) (hn : n ≤ 1000) (h : Cert m n rows ends costs y) : forR f y.items () = .ok () := by
  have key : ∀ xs : List (Int ⊕ List Int), (∀ v ∈ xs, f () v = .ok ()) → forR f xs () = .ok () := fun xs h => by
    have := forR_eq (f := f) (g := fun _ _ => ()) (xs := xs) (s := ()) fun s x hx => h x hx
    rw [this]
  refine key _ fun v hv => ?_
  cases y with
  | c2 a p =>
    obtain ⟨_, hp, _⟩ := h
    have : v = .inr p := List.mem_singleton.mp hv
    rw [this]
    exact h2 p (by omega)
  | c4 a d xs ys =>
    obtain ⟨_, mt, _, _, h⟩ := h
    have hy : ys.length ≤ 1000 := by
      rcases h with ⟨_, e, _⟩ | ⟨_, e, _⟩ <;> omega
    have hx := mt.ln
    rcases List.mem_cons.mp hv with z | z
    · rw [z]; exact h1 d
    · rcases List.mem_cons.mp z with z | z
      · rw [z]; exact h2 xs (by omega)
      · rw [List.mem_singleton.mp z]; exact h2 ys hy
end Law

set_option Elab.async false
set_option linter.all false
set_option maxRecDepth 100000
set_option maxHeartbeats 1000000
namespace Law
open PySem PySem.Spec L2 Py Lw La
theorem cell_ok {s : Scr} {k : Int} (hk : 0 ≤ k) : Ok (m__law_cell s k) fun _ => True := by
  unfold m__law_cell
  by_cases h : k < (s.ns.length : Int)
  · rw [if_pos (decide_eq_true h), idx_ok hk h]; trivial
  · rw [if_neg (by simpa using h)]; trivial
theorem many_ok {s : Scr} {k many limit : Int} (hk : 0 ≤ k) (hk2 : k < 4294967296) (hm0 : 0 ≤ many) (hm : many ≤ 1000000) (hl : 0 < limit) (hl2 : limit < 4294967296) :
    Ok (m__law_many s k many limit) fun xs => xs.length = many.toNat ∧ ∀ x ∈ xs, 0 ≤ x ∧ x < limit := by
  unfold m__law_many
  refine wp (cell_ok hk) fun cell _ => ?_
  simp only [bok]
  rw [guardR_ok (inRange_of (by omega) (by omega))]
  simp only [bok]
  refine wp (P := fun r : Int × List Int => r.2.length = many.toNat ∧ ∀ x ∈ r.2, 0 ≤ x ∧ x < limit) ?_ fun r h => h
  have hlen : (rng 0 many).length = many.toNat := by rw [rng_length]; congr 1; omega
  rw [← hlen]
  refine (forR_wp (I := fun d (r : Int × List Int) => 0 ≤ r.1 ∧ r.2.length = d.length ∧ ∀ x ∈ r.2, 0 ≤ x ∧ x < limit) (done := []) ⟨by show (0 : Int) ≤ (cell.natAbs : Int); omega, rfl, by intro x hx; cases hx⟩ ?_).mono fun r h => ⟨by simpa using h.2.1, h.2.2⟩
  rintro d x r ⟨left, found⟩ e ⟨h1, h2, h3⟩
  have hx := rng_mem (lo := 0) (hi := many) (x := x) (by have e2 : rng 0 many = d ++ x :: r := e; rw [e2]; simp)
  have hd : d.length < sizeLine := by
    have e2 : rng 0 many = d ++ x :: r := e
    have := congrArg List.length e2
    rw [hlen, List.length_append, List.length_cons] at this
    show d.length < 16777216
    omega
  have hf : found.length < sizeLine := by have : found.length = d.length := h2; omega
  have fin : ∀ (l y : Int), 0 ≤ l → 0 ≤ y → y < limit → Ok (Res.ok (l, found ++ [y])) fun s' : Int × List Int => 0 ≤ s'.1 ∧ s'.2.length = (d ++ [x]).length ∧ ∀ x ∈ s'.2, 0 ≤ x ∧ x < limit := by
    intro l y hl0 hy0 hy1
    refine ⟨hl0, ?_, fun z hz => ?_⟩
    · show (found ++ [y]).length = _
      rw [List.length_append, List.length_append]
      have : found.length = d.length := h2
      rw [this]; rfl
    · rcases List.mem_append.mp hz with h | h
      · exact h3 z h
      · cases List.mem_singleton.mp h; exact ⟨hy0, hy1⟩
  have p18 : powM 10 18 = .ok 1000000000000000000 := rfl
  rw [p18]
  simp only [bok, andM_ok]
  split
  · rw [mod_pos hl]
    simp only [bok]
    rw [apn_ok hf]
    simp only [bok]
    rw [div_s hl hl2]
    exact fin _ _ (Int.ediv_nonneg h1 (by omega)) (Int.emod_nonneg _ (by omega)) (Int.emod_lt_of_pos _ hl)
  · rw [mul_r (x := cell) (by decide), mul_l (x := x) (by omega), mul_l (x := 17) (by decide)]
    simp only [bok]
    rw [mod_pos (by decide)]
    simp only [bok]
    generalize hA : (cell * 48271 + x * 69621 + 17 * k + 11) % 2147483647 = A
    have a1 : 0 ≤ A := by rw [← hA]; exact Int.emod_nonneg _ (by decide)
    have a2 : A < 2147483647 := by rw [← hA]; exact Int.emod_lt_of_pos _ (by decide)
    rw [mul_l (x := A) (by omega), mul_l (x := x) (by omega)]
    simp only [bok]
    rw [mod_pos (by decide)]
    simp only [bok]
    generalize hB : (A * A + x * 40692 + 3) % 2147483399 = B
    have b1 : 0 ≤ B := by rw [← hB]; exact Int.emod_nonneg _ (by decide)
    have b2 : B < 2147483399 := by rw [← hB]; exact Int.emod_lt_of_pos _ (by decide)
    rw [mul_l (x := B) (by omega), mul_l (x := x) (by omega)]
    simp only [bok]
    rw [mod_pos (by decide)]
    simp only [bok]
    rw [div_s (by decide) (by decide)]
    simp only [bok]
    rw [mod_pos hl]
    simp only [bok]
    rw [apn_ok hf]
    exact fin _ _ h1 (Int.emod_nonneg _ (by omega)) (Int.emod_lt_of_pos _ hl)
theorem many2 {s : Scr} {k many limit : Int} (hk : 0 ≤ k) (hk2 : k < 4294967296) (hm0 : 0 ≤ many) (hm : many ≤ 1000000) (hl : 0 < limit) (hl2 : limit < 4294967296) :
    Ok (m__law_many s k many limit) fun xs => (xs.length : Int) = many ∧ ∀ x ∈ xs, 0 ≤ x ∧ x < limit :=
  (many_ok hk hk2 hm0 hm hl hl2).mono fun xs h => ⟨by omega, h.2⟩
/-- what the law has drawn -/
structure Dn (m n : Nat) (rows : List (List Int)) (ends costs : List Int) : Prop where
  rl : rows.length = m
  rw : ∀ row ∈ rows, row.length = n
  el : ends.length = m
  cl : costs.length = n
  rb : ∀ k, k < m → ∀ j, j < n → (tf rows k j).natAbs ≤ 960000
  eb : ∀ k, k < m → (at0 ends (k : Int)).natAbs ≤ 960000
  cb : ∀ j, j < n → (at0 costs (j : Int)).natAbs ≤ 9
theorem tail_ok {m n : Nat} (hm : m ≤ 9) (hn : n ≤ 16) {rows : List (List Int)} {ends costs : List Int} (D : Dn m n rows ends costs) : ∃ y, m_least_cost rows ends costs = .ok y ∧ Cert m n rows ends costs y :=
  least_ok (b := 960000) (cb := 9) (by omega) (by omega) D.rl D.rw D.el D.cl D.rb D.eb (by decide) D.cb (by decide)
    (by
      have h1 : ∀ m, m ≤ 9 → fac m ≤ 362880 := by decide
      have h2 : 960000 ^ m ≤ 960000 ^ 9 := Nat.pow_le_pow_right (by decide) hm
      have h3 : fac m * 960000 ^ m ≤ 362880 * 960000 ^ 9 := Nat.mul_le_mul (h1 m hm) h2
      have h4 : (m + 1) * ((9 + 1) * (fac m * 960000 ^ m)) ≤ 10 * ((9 + 1) * (362880 * 960000 ^ 9)) := Nat.mul_le_mul (by omega) (Nat.mul_le_mul_left _ h3)
      exact Nat.lt_of_le_of_lt h4 (by decide +kernel))
    (by
      have h1 : (n + m) ^ m ≤ 25 ^ m := Nat.pow_le_pow_left (by omega) m
      have h2 : 25 ^ m ≤ 25 ^ 9 := Nat.pow_le_pow_right (by decide) hm
      exact Nat.lt_of_le_of_lt (Nat.le_trans h1 h2) (by decide +kernel))
end Law

set_option Elab.async false
set_option linter.all false
set_option maxRecDepth 100000
set_option maxHeartbeats 1000000
namespace Law
open PySem PySem.Spec L2 Py Lw La
/-- behind the drawing -/
theorem end_ok {m n : Nat} (hm : m ≤ 9) (hn : n ≤ 16) {rows : List (List Int)} {ends costs : List Int} (D : Dn m n rows ends costs) {k : List (List Int) → List Int → List Int → Res Bool}
    (hk : ∀ y, m_least_cost rows ends costs = .ok y → Cert m n rows ends costs y → k rows ends costs = .ok true) : k rows ends costs = .ok true := by
  obtain ⟨y, e, c⟩ := tail_ok hm hn D
  exact hk y e c
theorem val_ok {row xs : List Int} {n : Nat} (hl : row.length = n) (hx : xs.length = n) (hn : n ≤ 16) (hr : ∀ x ∈ row, x.natAbs ≤ 20000) (hxs : ∀ x ∈ xs, 0 ≤ x ∧ x < 4) : ∃ v, m__law_value row xs = .ok v ∧ v.natAbs ≤ 960000 := by
  unfold m__law_value
  rw [hl, guardR_ok (inRange_of (by omega) (by omega))]
  simp only [bok]
  rw [lcX_ok (g := fun i => at0 row i * at0 xs i) (by rw [rng_len, sizeLine_eq]; omega) fun i hi => by
    have h := rng_mem hi
    rw [idx0 h.1 (by omega)]
    simp only [bok]
    rw [idx0 h.1 (by omega)]
    simp only [bok]
    have := hr _ (at0_mem (xs := row) h.1 (by omega))
    exact mul_l (by omega)]
  simp only [bok]
  refine ⟨_, rfl, ?_⟩
  rw [sum_rng]
  have := sm_abs (n := n) (f := fun k => at0 row (k : Int) * at0 xs (k : Int)) (b := 60000) fun k hk => by
    have a1 := hr _ (at0_mem (xs := row) (i := (k : Int)) (by omega) (by omega))
    have a2 := hxs _ (at0_mem (xs := xs) (i := (k : Int)) (by omega) (by omega))
    show (at0 row (k : Int) * at0 xs (k : Int)).natAbs ≤ 60000
    rw [Int.natAbs_mul]
    exact (Nat.mul_le_mul a1 (show (at0 xs (k : Int)).natAbs ≤ 3 by omega) : _ ≤ 20000 * 3)
  have h2 : n * 60000 ≤ 960000 := by omega
  exact Nat.le_trans this h2
theorem law_true (ns : List Int) (hl : ns.length ≤ 63) (hb : ∀ z ∈ ns, PySem.Builtin.Int.intBits z ≤ 1048576) : m_law ⟨ns⟩ = .ok true := by
  apply ok_eq
  unfold m_law
  generalize hLC : m_least_cost = lcF
  generalize hRT : m__law_right = rtF
  generalize hPL : m__law_plain = plF
  generalize hVA : m__law_value = vaF
  refine wp (cell_ok (by omega)) fun size _ => ?_
  have dv : ∀ k : Int, 0 < k → k < 4294967296 → divM size k = .ok (size / k) := fun k h1 h2 => div_s h1 h2
  rw [dv 6 (by decide) (by decide), dv 48 (by decide) (by decide), dv 768 (by decide) (by decide), dv 6144 (by decide) (by decide), dv 12288 (by decide) (by decide), dv 24576 (by decide) (by decide)]
  simp only [bok, mod_pos (show (0 : Int) < 6 by decide), mod_pos (show (0 : Int) < 8 by decide), mod_pos (show (0 : Int) < 16 by decide), mod_pos (show (0 : Int) < 2 by decide), mod_pos (show (0 : Int) < 4 by decide)]
  refine wp (P := fun r : Int × Int => (0 ≤ r.1 ∧ r.1 ≤ 9) ∧ 0 ≤ r.2 ∧ r.2 ≤ 16) ?_ fun r10 h10 => ?_
  · split
    · exact ⟨⟨by decide, by decide⟩, by decide, by decide⟩
    · have a1 := Int.emod_nonneg size (b := 6) (by decide)
      have a2 := Int.emod_lt_of_pos size (b := 6) (by decide)
      have a3 := Int.emod_nonneg (size / 6) (b := 8) (by decide)
      have a4 := Int.emod_lt_of_pos (size / 6) (b := 8) (by decide)
      exact ⟨⟨a1, by show size % 6 ≤ 9; omega⟩, a3, by show size / 6 % 8 ≤ 16; omega⟩
  obtain ⟨hh, ww⟩ := r10
  obtain ⟨⟨hh0, hh1⟩, ww0, ww1⟩ := h10
  dsimp only at hh0 hh1 ww0 ww1 ⊢
  obtain ⟨m, rfl⟩ := Int.eq_ofNat_of_zero_le hh0
  obtain ⟨n, rfl⟩ := Int.eq_ofNat_of_zero_le ww0
  have hm : m ≤ 9 := by omega
  have hn : n ≤ 16 := by omega
  refine wp (P := fun r : Int => 0 ≤ r ∧ r ≤ 20000) ?_ fun wd hwd => ?_
  · split
    · exact ⟨by decide, by decide⟩
    · exact ⟨by decide, by decide⟩
  have hmn : m * n ≤ 9 * 16 := Nat.mul_le_mul hm hn
  have emn : (m : Int) * (n : Int) = ((m * n : Nat) : Int) := by rw [Int.natCast_mul]
  rw [mul_l (x := (m : Int)) (by omega), mul_l (x := 2) (by decide), emn]
  simp only [bok]
  refine wp (P := fun e : List Int => e.length = m * n ∧ ∀ x ∈ e, x.natAbs ≤ 20000) (wp (many2 (by decide) (by decide) (by omega) (by omega) (by omega) (by omega)) fun l hl => ?_) fun en hen => ?_
  · have hll : l.length = m * n := by have := hl.1; omega
    rw [lcX_ok (g := fun x => x - wd) (by rw [hll, sizeLine_eq]; omega) fun x _ => rfl]
    refine ⟨by rw [List.length_map, hll], fun x hx => ?_⟩
    obtain ⟨z, hz, rfl⟩ := List.mem_map.mp hx
    have := hl.2 z hz
    omega
  have gm : guardR (inRange (m : Int)) (Res.ok (rng 0 (m : Int))) = .ok (rng 0 (m : Int)) := guardR_ok (inRange_of (by omega) (by omega))
  rw [gm]
  simp only [bok]
  refine wp (P := fun rs : List (List Int) => rs.length = m ∧ ∀ r ∈ rs, r.length = n ∧ ∀ x ∈ r, x.natAbs ≤ 20000) ?_ fun rs0 hrs0 => ?_
  · rw [lcX_ok (g := fun i : Int => cut en (some (i * (n : Int))) (some (i * (n : Int) + (n : Int)))) (by rw [rng_len, sizeLine_eq]; omega) fun i hi => by
      have h := rng_mem hi
      rw [mul_l (by omega)]
      simp only [bok]]
    refine ⟨by rw [List.length_map, rng_len], fun r hr => ?_⟩
    obtain ⟨i, hi, rfl⟩ := List.mem_map.mp hr
    have h := rng_mem hi
    obtain ⟨k, rfl⟩ := Int.eq_ofNat_of_zero_le h.1
    have hk : k < m := by omega
    have e1 : (k : Int) * (n : Int) = ((k * n : Nat) : Int) := by rw [Int.natCast_mul]
    have e2 : k * n + n ≤ m * n := by
      have := Nat.mul_le_mul_right n (show k + 1 ≤ m by omega)
      rw [Nat.succ_mul] at this
      exact this
    refine ⟨?_, fun x hx => hen.2 x (cut_sub hx)⟩
    rw [e1, cut_mid (by omega) (by omega) (by omega), List.length_take, List.length_drop, hen.1]
    omega
  refine wp (many2 (by decide) (by decide) (by omega) (by omega) (by decide) (by decide)) fun am ham => ?_
  have hal : am.length = n := by have := ham.1; omega
  refine wp (P := fun e : List Int => e.length = m ∧ ∀ x ∈ e, x.natAbs ≤ 960000) (wp (many2 (by decide) (by decide) (by omega) (by omega) (by decide) (by decide)) fun l hl => ?_) fun en0 hen0 => ?_
  · have hll : l.length = m := by have := hl.1; omega
    rw [lcX_ok (g := fun x => x - 9) (by rw [hll, sizeLine_eq]; omega) fun x _ => rfl]
    refine ⟨by rw [List.length_map, hll], fun x hx => ?_⟩
    obtain ⟨z, hz, rfl⟩ := List.mem_map.mp hx
    have := hl.2 z hz
    omega
  refine wp (P := fun e : List Int => e.length = m ∧ ∀ x ∈ e, x.natAbs ≤ 960000) ?_ fun en1 hen1 => ?_
  · split
    · have z := lcX_all (f := fun row => vaF row am) (P := fun v : Int => v.natAbs ≤ 960000) (xs := rs0) (by rw [hrs0.1, sizeLine_eq]; omega) fun row hrow => by
        obtain ⟨v, e, hv⟩ := val_ok (hrs0.2 row hrow).1 hal hn (hrs0.2 row hrow).2 ham.2
        rw [← hVA, e]
        exact hv
      obtain ⟨ys, e, hy⟩ := ok_ex z
      rw [e, show ∀ x : List Int, (Res.ok x).quiet = .ok x from fun _ => rfl]
      exact ⟨by rw [hy.1, hrs0.1], hy.2⟩
    · exact hen0
  refine wp (P := fun e : List Int => e.length = n ∧ ∀ x ∈ e, x.natAbs ≤ 9) (wp (many2 (by decide) (by decide) (by omega) (by omega) (by decide) (by decide)) fun l hl => ?_) fun co0 hco0 => ?_
  · have hll : l.length = n := by have := hl.1; omega
    rw [lcX_ok (g := fun x => x - 4) (by rw [hll, sizeLine_eq]; omega) fun x _ => rfl]
    refine ⟨by rw [List.length_map, hll], fun x hx => ?_⟩
    obtain ⟨z, hz, rfl⟩ := List.mem_map.mp hx
    have := hl.2 z hz
    omega
  refine wp (P := fun e : List Int => e.length = n ∧ ∀ x ∈ e, x.natAbs ≤ 9) ?_ fun co hco => ?_
  · split
    · rw [lcX_ok (g := fun x : Int => (x.natAbs : Int)) (by rw [hco0.1, sizeLine_eq]; omega) fun x _ => rfl]
      refine ⟨by show (co0.map _).length = n; rw [List.length_map, hco0.1], fun x hx => ?_⟩
      obtain ⟨z, hz, rfl⟩ := List.mem_map.mp hx
      have := hco0.2 z hz
      omega
    · exact hco0
  refine wp (P := fun r : List (List Int) × List Int => (r.1.length = m ∧ ∀ x ∈ r.1, x.length = n ∧ ∀ y ∈ x, y.natAbs ≤ 20000) ∧ r.2.length = m ∧ ∀ x ∈ r.2, x.natAbs ≤ 960000) ?_ fun r74 h74 => ?_
  · simp only [andM_ok, bok]
    split
    · rename_i hk
      rw [Bool.and_eq_true] at hk
      have hm1 : 1 < m := by have := of_decide_eq_true hk.1; omega
      rw [idx0 (xs := rs0) (by omega) (by have := hrs0.1; omega), idx0 (xs := en1) (by omega) (by have := hen1.1; omega)]
      simp only [bok]
      rw [setM_ok (by omega) (by have := hrs0.1; omega), setM_ok (by omega) (by have := hen1.1; omega)]
      simp only [bok]
      refine ⟨⟨by show (List.set _ _ _).length = m; rw [List.length_set, hrs0.1], fun x hx => ?_⟩, by show (List.set _ _ _).length = m; rw [List.length_set, hen1.1], fun x hx => ?_⟩
      · rcases List.mem_or_eq_of_mem_set hx with z | z
        · exact hrs0.2 x z
        · rw [z]; exact hrs0.2 _ (at0_mem (by omega) (by have := hrs0.1; omega))
      · rcases List.mem_or_eq_of_mem_set hx with z | z
        · exact hen1.2 x z
        · rw [z]; exact hen1.2 _ (at0_mem (by omega) (by have := hen1.1; omega))
    · exact ⟨hrs0, hen1⟩
  obtain ⟨rows, ends⟩ := r74
  obtain ⟨hR, hE⟩ := h74
  dsimp only at hR hE ⊢
  have D : Dn m n rows ends co := ⟨hR.1, fun r h => (hR.2 r h).1, hE.1, hco.1, fun k hk j hj => by
    have h1 := at0_mem (xs := rows) (i := (k : Int)) (by omega) (by have := hR.1; omega)
    have h2 := hR.2 _ h1
    have := h2.2 _ (at0_mem (xs := at0 rows (k : Int)) (i := (j : Int)) (by omega) (by have := h2.1; omega))
    show (at0 (at0 rows (k : Int)) (j : Int)).natAbs ≤ 960000
    omega, fun k hk => hE.2 _ (at0_mem (by omega) (by have := hE.1; omega)), fun j hj => hco.2 _ (at0_mem (by omega) (by have := hco.1; omega))⟩
  have lid : lcX (fun _ => Res.ok true) (fun row => Res.ok row) rows = .ok rows := by
    rw [lcX_ok (g := fun r => r) (by rw [hR.1, sizeLine_eq]; omega) fun x _ => rfl]
    exact congrArg Res.ok (List.map_id' rows)
  obtain ⟨y, ey, cy⟩ := tail_ok hm hn D
  rw [hLC] at ey
  have er := right_ok D.rl D.rw D.el D.cl (by omega) (by omega) (fun k hk j hj => by have := D.rb k hk j hj; omega) (fun k hk => by have := D.eb k hk; omega) (fun j hj => by have := D.cb j hj; omega) cy
  rw [hRT] at er
  have ep := plain_ok (ds := its y) (by cases y <;> simp [its])
  rw [hPL, ← its_pd y] at ep
  rw [lid]
  simp only [bok]
  rw [ey]
  have qu : ∀ {α : Type} (x : α), (Res.ok x).quiet = .ok x := fun _ => rfl
  simp only [bok, qu, er]
  rw [if_neg (by exact Bool.false_ne_true)]
  rw [(Dat.iff rows rows).mpr rfl, (Dat.iff ends ends).mpr rfl, (Dat.iff co co).mpr rfl]
  simp only [bok, orM_ok]
  rw [if_neg (by exact Bool.false_ne_true), ep]
  simp only [bok]
  have em : (List.map PD.d ((its y).map fun d => PD.mk (gP d))) = (its y).map gP := by rw [List.map_map]; rfl
  rw [em, guardR_ok (its_noL y)]
  simp only [bok, qu]
  rw [spoil_ok (m := m) (n := n) (fun d => rfl) (fun xs hxs => by
    show ((Res.ok true).bind fun k107 => if k107 then ((appM xs 7).bind fun part105 => Res.ok part105) else Res.ok xs).bind (fun _ => Res.ok ()) = _
    simp only [bok]
    rw [if_pos trivial, apn_ok (by rw [sizeLine_eq]; omega)]
    simp only [bok]) y (by omega) (by omega) cy]
  simp only [bok, qu]
  rw [apn_ok (by rw [hE.1, sizeLine_eq]; omega), apn_ok (by rw [hco.1, sizeLine_eq]; omega)]
  simp only [bok]
  rw [show (ToD.toD ((its y).map fun d => PD.mk (gP d)) : PyData) = .list ((its y).map gP) from congrArg PyData.list em, self_eqv (its_shaped y (cert_word cy))]
  rw [show isTup (PD.mk y.pd) = true by rw [its_pd]; rfl]
  rfl
end Law

set_option maxHeartbeats 0
namespace Hd
open PySem PySem.Spec L2 Py Lw
def d_clear_column : He.DefD := ⟨("clear_column", none), "clear_column", "clear_column", defArgs (topS 1), defBody (topS 1), defScope (topS 1), [], []⟩
def d__first_table : He.DefD := ⟨("_first_table", none), "_first_table", "_first_table", defArgs (topS 4), defBody (topS 4), defScope (topS 4), [], []⟩
def d__entering : He.DefD := ⟨("_entering", none), "_entering", "_entering", defArgs (topS 6), defBody (topS 6), defScope (topS 6), [], []⟩
def d__leaving : He.DefD := ⟨("_leaving", none), "_leaving", "_leaving", defArgs (topS 7), defBody (topS 7), defScope (topS 7), [], []⟩
def d__improve : He.DefD := ⟨("_improve", none), "_improve", "_improve", defArgs (topS 5), defBody (topS 5), defScope (topS 5), [], []⟩
def d__drive_out : He.DefD := ⟨("_drive_out", none), "_drive_out", "_drive_out", defArgs (topS 8), defBody (topS 8), defScope (topS 8), [], []⟩
def d__cost_row : He.DefD := ⟨("_cost_row", none), "_cost_row", "_cost_row", defArgs (topS 9), defBody (topS 9), defScope (topS 9), [], []⟩
def d__way : He.DefD := ⟨("_way", none), "_way", "_way", defArgs (topS 10), defBody (topS 10), defScope (topS 10), [], []⟩
def d_least_cost : He.DefD := ⟨("least_cost", none), "least_cost", "least_cost", defArgs (topS 3), defBody (topS 3), defScope (topS 3), [], []⟩
def d__law_is_whole : He.DefD := ⟨("_law_is_whole", none), "_law_is_whole", "_law_is_whole", defArgs (topS 12), defBody (topS 12), defScope (topS 12), [], []⟩
def d__law_cell : He.DefD := ⟨("_law_cell", none), "_law_cell", "_law_cell", defArgs (topS 13), defBody (topS 13), defScope (topS 13), [], []⟩
def d__law_many : He.DefD := ⟨("_law_many", none), "_law_many", "_law_many", defArgs (topS 14), defBody (topS 14), defScope (topS 14), [], []⟩
def d__law_short : He.DefD := ⟨("_law_short", none), "_law_short", "_law_short", defArgs (topS 15), defBody (topS 15), defScope (topS 15), [], []⟩
def d__law_value : He.DefD := ⟨("_law_value", none), "_law_value", "_law_value", defArgs (topS 16), defBody (topS 16), defScope (topS 16), [], []⟩
def d__law_whole_list : He.DefD := ⟨("_law_whole_list", none), "_law_whole_list", "_law_whole_list", defArgs (topS 17), defBody (topS 17), defScope (topS 17), [], []⟩
def d__law_column : He.DefD := ⟨("_law_column", none), "_law_column", "_law_column", defArgs (topS 18), defBody (topS 18), defScope (topS 18), [], []⟩
def d__law_none : He.DefD := ⟨("_law_none", none), "_law_none", "_law_none", defArgs (topS 19), defBody (topS 19), defScope (topS 19), [], []⟩
def d__law_meets : He.DefD := ⟨("_law_meets", none), "_law_meets", "_law_meets", defArgs (topS 20), defBody (topS 20), defScope (topS 20), [], []⟩
def d__law_right : He.DefD := ⟨("_law_right", none), "_law_right", "_law_right", defArgs (topS 21), defBody (topS 21), defScope (topS 21), [], []⟩
def d__law_plain : He.DefD := ⟨("_law_plain", none), "_law_plain", "_law_plain", defArgs (topS 22), defBody (topS 22), defScope (topS 22), [], []⟩
def d_law : He.DefD := ⟨("law", none), "law", "law", defArgs (topS 23), defBody (topS 23), defScope (topS 23), [], []⟩
def fn0 : List He.DefD := [d_clear_column, d__first_table, d__entering, d__leaving, d__improve, d__drive_out, d__cost_row, d__way, d_least_cost, d__law_is_whole, d__law_cell, d__law_many, d__law_short, d__law_value, d__law_whole_list, d__law_column, d__law_none, d__law_meets, d__law_right, d__law_plain, d_law]
def fn : List He.DefD := fn0
def fa0 : List He.Fa := [.glo "clear_column", .glo "_first_table", .glo "_entering", .glo "_leaving", .glo "_improve", .glo "_drive_out", .glo "_cost_row", .glo "_way", .glo "least_cost", .glo "_law_is_whole", .glo "_law_cell", .glo "_law_many", .glo "_law_short", .glo "_law_value", .glo "_law_whole_list", .glo "_law_column", .glo "_law_none", .glo "_law_meets", .glo "_law_right", .glo "_law_plain", .glo "law", .free "abs", .free "bool", .free "enumerate", .free "int", .free "isinstance", .free "len", .free "list", .free "range", .free "sum"]
def fa1 : List He.Fa := [.free "tuple", .free "zip"]
def fa : List He.Fa := fa0 ++ fa1
def fb (K : PySem.W.Frag) : Bool := true
theorem fx {K : PySem.W.Frag} {h : Heap} {mg : Str → Option Value} (X : K.In h) (G : h.Ns mainGlobals mg) (c : SaysP fb fa fn K) : Fx PySem.Challenge.pw_judgesandtrees_k05_least_cost_of_one_kin K mg where
  d_clear_column := c.says.def_ 0 (d := d_clear_column) rfl
  g_clear_column := He.glo_ok X G (c.says.fact 0 (f := .glo "clear_column") rfl)
  d__first_table := c.says.def_ 1 (d := d__first_table) rfl
  g__first_table := He.glo_ok X G (c.says.fact 1 (f := .glo "_first_table") rfl)
  d__entering := c.says.def_ 2 (d := d__entering) rfl
  g__entering := He.glo_ok X G (c.says.fact 2 (f := .glo "_entering") rfl)
  d__leaving := c.says.def_ 3 (d := d__leaving) rfl
  g__leaving := He.glo_ok X G (c.says.fact 3 (f := .glo "_leaving") rfl)
  d__improve := c.says.def_ 4 (d := d__improve) rfl
  g__improve := He.glo_ok X G (c.says.fact 4 (f := .glo "_improve") rfl)
  d__drive_out := c.says.def_ 5 (d := d__drive_out) rfl
  g__drive_out := He.glo_ok X G (c.says.fact 5 (f := .glo "_drive_out") rfl)
  d__cost_row := c.says.def_ 6 (d := d__cost_row) rfl
  g__cost_row := He.glo_ok X G (c.says.fact 6 (f := .glo "_cost_row") rfl)
  d__way := c.says.def_ 7 (d := d__way) rfl
  g__way := He.glo_ok X G (c.says.fact 7 (f := .glo "_way") rfl)
  d_least_cost := c.says.def_ 8 (d := d_least_cost) rfl
  g_least_cost := He.glo_ok X G (c.says.fact 8 (f := .glo "least_cost") rfl)
  d__law_is_whole := c.says.def_ 9 (d := d__law_is_whole) rfl
  g__law_is_whole := He.glo_ok X G (c.says.fact 9 (f := .glo "_law_is_whole") rfl)
  d__law_cell := c.says.def_ 10 (d := d__law_cell) rfl
  g__law_cell := He.glo_ok X G (c.says.fact 10 (f := .glo "_law_cell") rfl)
  d__law_many := c.says.def_ 11 (d := d__law_many) rfl
  g__law_many := He.glo_ok X G (c.says.fact 11 (f := .glo "_law_many") rfl)
  d__law_short := c.says.def_ 12 (d := d__law_short) rfl
  g__law_short := He.glo_ok X G (c.says.fact 12 (f := .glo "_law_short") rfl)
  d__law_value := c.says.def_ 13 (d := d__law_value) rfl
  g__law_value := He.glo_ok X G (c.says.fact 13 (f := .glo "_law_value") rfl)
  d__law_whole_list := c.says.def_ 14 (d := d__law_whole_list) rfl
  g__law_whole_list := He.glo_ok X G (c.says.fact 14 (f := .glo "_law_whole_list") rfl)
  d__law_column := c.says.def_ 15 (d := d__law_column) rfl
  g__law_column := He.glo_ok X G (c.says.fact 15 (f := .glo "_law_column") rfl)
  d__law_none := c.says.def_ 16 (d := d__law_none) rfl
  g__law_none := He.glo_ok X G (c.says.fact 16 (f := .glo "_law_none") rfl)
  d__law_meets := c.says.def_ 17 (d := d__law_meets) rfl
  g__law_meets := He.glo_ok X G (c.says.fact 17 (f := .glo "_law_meets") rfl)
  d__law_right := c.says.def_ 18 (d := d__law_right) rfl
  g__law_right := He.glo_ok X G (c.says.fact 18 (f := .glo "_law_right") rfl)
  d__law_plain := c.says.def_ 19 (d := d__law_plain) rfl
  g__law_plain := He.glo_ok X G (c.says.fact 19 (f := .glo "_law_plain") rfl)
  d_law := c.says.def_ 20 (d := d_law) rfl
  g_law := He.glo_ok X G (c.says.fact 20 (f := .glo "law") rfl)
  n_abs := He.free_ok X G (c.says.fact 21 (f := .free "abs") rfl)
  n_bool := He.free_ok X G (c.says.fact 22 (f := .free "bool") rfl)
  n_enumerate := He.free_ok X G (c.says.fact 23 (f := .free "enumerate") rfl)
  n_int := He.free_ok X G (c.says.fact 24 (f := .free "int") rfl)
  n_isinstance := He.free_ok X G (c.says.fact 25 (f := .free "isinstance") rfl)
  n_len := He.free_ok X G (c.says.fact 26 (f := .free "len") rfl)
  n_list := He.free_ok X G (c.says.fact 27 (f := .free "list") rfl)
  n_range := He.free_ok X G (c.says.fact 28 (f := .free "range") rfl)
  n_sum := He.free_ok X G (c.says.fact 29 (f := .free "sum") rfl)
  n_tuple := He.free_ok X G (c.says.fact 30 (f := .free "tuple") rfl)
  n_zip := He.free_ok X G (c.says.fact 31 (f := .free "zip") rfl)
end Hd
open PySem PySem.W PyProof.Rows
open_top hd for PySem.Challenge.rw_judgesandtrees_k05_least_cost_of_one_kin
theorem PySem.Challenge.cw_judgesandtrees_k05_least_cost_of_one_kin_holds : PySem.Challenge.rw_judgesandtrees_k05_least_cost_of_one_kin.Holds := by
  refine hd ?_
  refine Py.walk_py (l := PySem.Challenge.rw_judgesandtrees_k05_least_cost_of_one_kin) (n := 63) (k := 5) (x := "script") (f := fun u => Lw.m_law u.1) rfl (by decide) (by kernel_rfl) ⟨rfl, by decide, by decide⟩ (fun ns hl hb => Law.law_true ns hl hb) ?F
  intro w mg fa h Y G hmg0
  have KX := kIn_of Y
  have g := Hd.fx KX G ⟨by kernel_rfl⟩
  have hmg : mg ("law" : PySem.Str) = some (.ref fa) := hmg0
  have e := hmg.symm.trans g.g_law
  cases e
  obtain ⟨fd, hb, hF⟩ := Lw.okL_law (P := (PySem.Challenge.rw_judgesandtrees_k05_least_cost_of_one_kin).prog) (w := w) g
  exact ⟨_, fd, KX, hb, fun base _ _ => hF base⟩
